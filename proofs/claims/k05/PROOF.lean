import PyProof.Rows.All
import Wide.All
import OpenK.AllK
import Wide.FinOn
import HandS.ForMost
import HandS.Text
import KE.DataCmp
import PyProof.P3Eq
import HandS.TupAny
import HandS.IsInst
import HandS.Style
import HandS.Flow
import HandS.Defaults
import HandS.Exc
import HandS.More
import HandS.WordsExc
import PyProof.ReprRoads
import PyProof.NeData
import HandS.Comp
import HandS.Dict
import HandS.Small
import HandS.Zip
import HandS.Iter
import HandS.HeadHook3
import HandS.Ends
import HandS.HeadEnd
import HandS.Head0
import HandS.Head1
import HandS.Head2
import KE.GoesMore
import PyProof.EnumMake
import PyProof.DictUpdate
import HandS.Star
import PyProof.Rows.StrMeet
import KE.KDictPairs
import HandS.Codes
import HandS.Words
import PyProof.FitsInt
import KE.KStateDown
import PySem.Challenge.RW_bykindalone_k05_parts_depth_free_names
import Lean
section -- MpA
set_option Elab.async false
set_option linter.all false
set_option maxRecDepth 100000
/-! Mp, part A: data by value, a store of what is changed, the small language and its run. -/
namespace Mp
open PySem L2

/-- data: tuples, lists and dicts that nobody changes stand by value; ref n is the n-th thing of the store -/
inductive D where
  | non
  | bl (b : Bool)
  | int (i : Int)
  | str (x : Str)
  | tup (xs : List D)
  | lst (xs : List D)
  | dct (ks : List Key) (vs : List D)
  | wdc (ks : List Key) (vs : List D)
  | ref (n : Nat)
  deriving Inhabited

/-- what stands in the store: lists and dicts that are changed -/
inductive Cell where
  | lst (xs : List D)
  | dct (ks : List Key) (vs : List D)
  | tup (xs : List D)
  | fdc (ks : List Key) (vs : List D)
  deriving Inhabited
abbrev Sto := List Cell
abbrev Env := List (Option D)
/-- an exception: its class's number, its fields -/
structure Exc where
  cls : Nat
  fs : List (Str × D)

inductive R (α : Type) where
  | ok (a : α) (m : Sto)
  | exc (x : Exc) (m : Sto)
  | bad
abbrev M (α : Type) := Sto → R α
@[inline] def M.ret {α : Type} (a : α) : M α := fun m => .ok a m
def M.bnd {α β : Type} (x : M α) (f : α → M β) : M β := fun m => match x m with
  | .ok a m1 => f a m1
  | .exc e m1 => .exc e m1
  | .bad => .bad
@[inline] def M.bad {α : Type} : M α := fun _ => .bad
@[inline] def M.opt {α : Type} : Option α → M α
  | some a => M.ret a
  | none => M.bad
/-- what raises is bad here -/
def M.calm {α : Type} (x : M α) : M α := fun m => match x m with
  | .ok a m1 => .ok a m1
  | _ => .bad

inductive Blt where
  | len | repr | int | abs | max | min | max2 | min2 | all | any | tuple | list | sorted | divmod | str | sum | dict
  deriving DecidableEq
inductive Met where
  | append | get1 | get2 | join | update
  deriving DecidableEq
inductive Ty where
  | tup | str | int | bool | lst | dct | non
  deriving DecidableEq

mutual
inductive E where
  | loc (i : Nat)
  | cst (d : D)
  | glo (i : Nat)
  | tup (es : Es)
  | lst (es : Es)
  | lsm (es : Es)
  | tpm (a : E)
  | tp0
  | dsm (ks : List Key) (vs : List D)
  | dspc (k v : E)
  | lck (a : E)
  | tst (es : Es) (st : List Bool)
  | fst (es : Es)
  | dsp (ks vs : Es)
  | mrg (a b : E)
  | bin (o : Operator) (a b : E)
  | neg (a : E)
  | cmp (o : CmpOp) (a b : E)
  | chn (o p : CmpOp) (a b c : E)
  | and (es : Es)
  | or (es : Es)
  | not (a : E)
  | ite (t a b : E)
  | sub (a i : E)
  | sli (a : E) (lo hi : OE)
  | rev (a : E)
  | call (f : Nat) (es : Es)
  | calk (f : Nat) (es ks : Es) (pm : List Nat)
  | blt (b : Blt) (es : Es)
  | isi (e : E) (t : Ty)
  | met (m : Met) (e : E) (es : Es)
  | lc (t : Tg) (i : It) (c : Es) (e : E)
inductive Es where
  | n
  | c (e : E) (r : Es)
inductive OE where
  | no
  | so (e : E)
inductive It where
  | seq (e : E)
  | rg1 (e : E)
  | rg2 (a b : E)
  | enm (e : E)
  | zip (a b : E)
  | zps (a b : E)
inductive Tg where
  | nm (i : Nat)
  | tp (ts : Tgs)
  | sb (o i : E)
inductive Tgs where
  | n
  | c (t : Tg) (r : Tgs)
end
mutual
inductive S where
  | asg (t : Tg) (e : E)
  | exp (e : E)
  | ret (e : E)
  | retn
  | iff (c : E) (a b : Ss)
  | fr (t : Tg) (i : It) (b : Ss)
  | whl (c : E) (b : Ss)
  | brk
  | cnt
  | pas
  | rai (x : Nat) (es : Es)
inductive Ss where
  | n
  | c (s : S) (r : Ss)
end

/-! ### data as the library's -/
def keyD : Key → D
  | .inl i => .int i
  | .inr x => .str x
def keyPy : Key → PyData
  | .inl i => .int i
  | .inr x => .str x
def dKey : D → Option Key
  | .int i => some (.inl i)
  | .str x => some (.inr x)
  | _ => none
def zipKv : List Key → List PyData → List (PyData × PyData)
  | k :: ks, v :: vs => (keyPy k, v) :: zipKv ks vs
  | _, _ => []
mutual
def toPy : D → Option PyData
  | .non => some .none
  | .bl b => some (.bool b)
  | .int i => some (.int i)
  | .str x => some (.str x)
  | .tup xs => (toPyL xs).map .tuple
  | .lst xs => (toPyL xs).map .list
  | .dct ks vs => if ks.length = vs.length then (toPyL vs).map fun ys => .dict (zipKv ks ys) else none
  | .wdc _ _ => none
  | .ref _ => none
def toPyL : List D → Option (List PyData)
  | [] => some []
  | x :: xs => match toPy x, toPyL xs with
    | some y, some ys => some (y :: ys)
    | _, _ => none
end

/-! ### what may be walked, indexed, measured -/
/-- the items of a list or tuple -/
def items (m : Sto) : D → Option (List D)
  | .tup xs => some xs
  | .lst xs => some xs
  | .ref n => match m[n]? with
    | some (.lst xs) => some xs
    | _ => none
  | _ => none
def lenD (m : Sto) : D → Option Nat
  | .str x => if x.length ≤ sizeLine then some x.length else none
  | d => (items m d).map (·.length)
def getK : List Key → List D → Key → Option D
  | k :: ks, v :: vs, q => if k = q then some v else getK ks vs q
  | _, _, _ => none
def ixD (m : Sto) (a i : D) : Option D := match a, i with
  | .tup xs, .int k => atI xs k
  | .lst xs, .int k => atI xs k
  | .ref n, .int k => match m[n]? with
    | some (.lst xs) => atI xs k
    | some (.tup xs) => atI xs k
    | _ => none
  | .str z, .int k => if z.length ≤ sizeLine then (atI z.cps.toList k).map fun c => .str ⟨#[c]⟩ else none
  | .dct ks vs, k => (dKey k).bind fun q => getK ks vs q
  | .wdc ks vs, .str x => getK ks vs (.inr x)
  | _, _ => none
/-- a part of a row -/
def cutD (xs : List D) (lo hi : Option Int) : List D := (xs.drop (HT.sIx xs.length 0 lo)).take (HT.sIx xs.length xs.length hi - HT.sIx xs.length 0 lo)
def sliD (m : Sto) (a : D) (lo hi : Option Int) : Option D := match a with
  | .tup xs => some (.tup (cutD xs lo hi))
  | .lst xs => some (.lst (cutD xs lo hi))
  | .ref n => match m[n]? with
    | some (.lst xs) => some (.lst (cutD xs lo hi))
    | _ => none
  | .str z => if z.length ≤ sizeLine then some (.str (cutS z lo hi)) else none
  | _ => none
def revD (m : Sto) (a : D) : Option D := match a with
  | .tup xs => some (.tup xs.reverse)
  | .lst xs => some (.lst xs.reverse)
  | .ref n => match m[n]? with
    | some (.lst xs) => some (.lst xs.reverse)
    | _ => none
  | _ => none

/-! ### operators -/
def mulOk (i j : Int) : Bool := (decide (-(2 ^ 64) < i) && decide (i < 2 ^ 64)) || (decide (-(2 ^ 64) < j) && decide (j < 2 ^ 64))
/-- the items of a list -/
def lstOf (m : Sto) : D → Option (List D)
  | .lst xs => some xs
  | .ref n => match m[n]? with
    | some (.lst xs) => some xs
    | _ => none
  | _ => none
def binD (m : Sto) (o : Operator) (a b : D) : Option D := match o, a, b with
  | .Add, .int i, .int j => some (.int (i + j))
  | .Add, .str x, .str y => if x.length + y.length ≤ sizeLine then some (.str (x ++ y)) else none
  | .Add, .tup xs, .tup ys => if xs.length + ys.length ≤ sizeLine then some (.tup (xs ++ ys)) else none
  | .Add, a, b => match lstOf m a, lstOf m b with
    | some xs, some ys => if xs.length + ys.length ≤ sizeLine then some (.lst (xs ++ ys)) else none
    | _, _ => none
  | .Sub, .int i, .int j => some (.int (i - j))
  | .Mult, .int i, .int j => if mulOk i j then some (.int (i * j)) else none
  | .Mod, .int i, .int j => if 0 < j then some (.int (i % j)) else none
  | .FloorDiv, .int i, .int j => if 0 < j ∧ j < 1073741824 then some (.int (i / j)) else none
  | .Pow, .int i, .int j => if 0 ≤ j ∧ ((Builtin.Int.intBits i : Nat) : Int) * j ≤ 2 ^ 27 then some (.int (i ^ j.toNat)) else none
  | _, _, _ => none

/-- == of data: where both are known as data -/
def eqG (a b : D) : Option Bool := match toPy a, toPy b with
  | some p, some q => if p.canLay0 && q.canLay0 && decide (min p.depth q.depth ≤ 190) then some (PyData.eqv p q) else none
  | _, _ => none
/-- == of two texts, whatever they hold -/
def eqS (a b : D) : Option Bool := match a, b with
  | .str x, .str y => some (x == y)
  | _, _ => none
def eqD (a b : D) : Option Bool := match a, b with
  | .tup [], .tup ys => some ys.isEmpty
  | .tup xs, .tup [] => some xs.isEmpty
  | .lst xs, .lst ys => if xs.length ≠ ys.length then some false else eqG (.lst xs) (.lst ys)
  | a, b => (eqG a b).or (eqS a b)
/-- x in xs, by == -/
def inL (x : D) : List D → Option Bool
  | [] => some false
  | y :: ys => match eqG y x, inL x ys with
    | some a, some b => some (a || b)
    | _, _ => none
def hasK (q : Key) : List Key → Bool
  | [] => false
  | k :: ks => decide (k = q) || hasK q ks
def inD (m : Sto) (a b : D) : Option Bool := match a, b with
  | .str x, .str z => some (!(Builtin.Str.occurrences z x 0 z.length 1).isEmpty)
  | a, .dct ks _ => (dKey a).map fun q => hasK q ks
  | .str x, .wdc ks _ => some (hasK (.inr x) ks)
  | a, d => (items m d).bind (inL a)
mutual
/-- p < q: the first place whose items differ decides; only there the two must be of a kind -/
def ltP : PyData → PyData → Option Bool
  | .int i, q => (match q with
    | .int j => some (decide (i < j))
    | _ => none)
  | .str x, q => (match q with
    | .str y => some (decide (x.cps.toList < y.cps.toList))
    | _ => none)
  | .tuple xs, q => (match q with
    | .tuple ys => ltPL xs ys
    | _ => none)
  | .none, _ => none
  | .bool _, _ => none
  | .list _, _ => none
  | .dict _, _ => none
def ltPL : List PyData → List PyData → Option Bool
  | [], ys => some (!ys.isEmpty)
  | x :: xs, ys => (match ys with
    | [] => some false
    | y :: ys => if PyData.eqv x y = true then ltPL xs ys else ltP x y)
end
def isNon : D → Bool
  | .non => true
  | _ => false
/-- < of tuples -/
def ltT (a b : D) : Option Bool := match toPy a, toPy b with
  | some p, some q => if p.canLay0 && q.canLay0 && decide (min p.depth q.depth ≤ 190) then ltP p q else none
  | _, _ => none
def cmpD (m : Sto) (o : CmpOp) (a b : D) : Option Bool := match o with
  | .Eq => eqD a b
  | .NotEq => ((eqG a b).or (eqS a b)).map (!·)
  | .In => inD m a b
  | .NotIn => (inD m a b).map (!·)
  | .Is => match b with
    | .non => some (isNon a)
    | _ => none
  | .IsNot => match b with
    | .non => some (!isNon a)
    | _ => none
  | .Lt => match a, b with
    | .int i, .int j => some (decide (i < j))
    | .tup xs, .tup ys => ltT (.tup xs) (.tup ys)
    | _, _ => none
  | .LtE => match a, b with
    | .int i, .int j => some (decide (i ≤ j))
    | .str x, .str y => some (!decide (y.cps.toList < x.cps.toList))
    | _, _ => none
  | .Gt => match a, b with
    | .int i, .int j => some (decide (j < i))
    | _, _ => none
  | .GtE => match a, b with
    | .int i, .int j => some (decide (j ≤ i))
    | _, _ => none

/-! ### truth -/
def truD (m : Sto) : D → Option Bool
  | .non => some false
  | .bl b => some b
  | .int i => some (i != 0)
  | .str y => if y.length ≤ sizeLine then some ((y.length : Int) != 0) else none
  | .dct ks _ => some (!ks.isEmpty)
  | d => (items m d).map fun xs => !xs.isEmpty

/-! ### built-ins -/
def intsOf : List D → Option (List Int)
  | [] => some []
  | .int i :: r => (intsOf r).map (i :: ·)
  | _ => none
def blsOf : List D → Option (List Bool)
  | [] => some []
  | .bl i :: r => (blsOf r).map (i :: ·)
  | _ => none
def strsOf : List D → Option (List Str)
  | [] => some []
  | .str i :: r => (strsOf r).map (i :: ·)
  | _ => none
def maxL : List Int → Int
  | [] => 0
  | [x] => x
  | x :: y :: r => let m := maxL (y :: r)
    if x < m then m else x
def minL : List Int → Int
  | [] => 0
  | [x] => x
  | x :: y :: r => let m := minL (y :: r)
    if m < x then m else x
def reprD (d : D) : Option D :=
  match toPy d with
  | some p => if p.showable && decide (p.shown.length ≤ sizeLine) && decide (p.depth ≤ 190) then some (.str p.shown) else none
  | none => none
/-- a text put into its place among ascending ones -/
def insS (x : Str) : List Str → List Str
  | [] => [x]
  | y :: ys => if decide (y.cps.toList < x.cps.toList) then y :: insS x ys else x :: y :: ys
def sortS : List Str → List Str
  | [] => []
  | x :: xs => insS x (sortS xs)
def keysS : List Key → Option (List Str)
  | [] => some []
  | .inr x :: r => (keysS r).map (x :: ·)
  | .inl _ :: _ => none
/-- a dict's pair put -/
def putK : List Key → List D → Key → D → List Key × List D
  | k :: ks, v :: vs, q, d => if k = q then (k :: ks, d :: vs) else ((k :: (putK ks vs q d).1), (v :: (putK ks vs q d).2))
  | _, _, q, d => ([q], [d])
def putAllK : List Key → List D → List Key → List D → List Key × List D
  | ks, vs, q :: qs, d :: ds => putAllK (putK ks vs q d).1 (putK ks vs q d).2 qs ds
  | ks, vs, _, _ => (ks, vs)
def pairsK : List D → Option (List Key × List D)
  | [] => some ([], [])
  | .tup [k, v] :: r => match dKey k, pairsK r with
    | some q, some (ks, vs) => some (q :: ks, v :: vs)
    | _, _ => none
  | _ => none
def bltD (m : Sto) (b : Blt) (ds : List D) : Option D := match b, ds with
  | .len, [d] => (lenD m d).map fun (n : Nat) => .int (n : Int)
  | .repr, [d] => reprD d
  | .int, [.int i] => some (.int i)
  | .int, [.bl b] => some (.int (if b then 1 else 0))
  | .abs, [.int i] => some (.int (if i < 0 then -i else i))
  | .max2, [.int i, .int j] => some (.int (if j > i then j else i))
  | .min2, [.int i, .int j] => some (.int (if j < i then j else i))
  | .max, [.lst xs] => match intsOf xs with
    | some ns => if ns.isEmpty then none else some (.int (maxL ns))
    | none => none
  | .min, [.lst xs] => match intsOf xs with
    | some ns => if ns.isEmpty then none else some (.int (minL ns))
    | none => none
  | .sum, [.lst xs] => (intsOf xs).map fun ns => .int ns.sum
  | .all, [.lst xs] => (blsOf xs).map fun ns => .bl (ns.all id)
  | .any, [.lst xs] => (blsOf xs).map fun ns => .bl (ns.any id)
  | .tuple, [d] => (items m d).map .tup
  | .list, [d] => (items m d).map .lst
  | .sorted, [.dct ks _] => match keysS ks with
    | some xs => if ks.length < 64 then some (.lst ((sortS xs).map .str)) else none
    | none => none
  | .sorted, [.ref n] => match m[n]? with
    | some (.fdc ks _) => match keysS ks with
      | some xs => if ks.length < 64 then some (.lst ((sortS xs).map .str)) else none
      | none => none
    | some (.lst ys) => match strsOf ys with
      | some xs => if xs.length < 64 then some (.lst ((sortS xs).map .str)) else none
      | none => none
    | _ => none
  | .divmod, [.int i, .int j] => if 0 < j ∧ j < 1073741824 then some (.tup [.int (i / j), .int (i % j)]) else none
  | .str, [.int i] => if i.natAbs.log2 < 1920 then some (.str (toString i)) else none
  | .str, [.str x] => some (.str x)
  | .dict, [.ref n] => match m[n]? with
    | some (.tup xs) => match pairsK xs with
      | some (ks, vs) => some (.dct (putAllK [] [] ks vs).1 (putAllK [] [] ks vs).2)
      | none => none
    | _ => none
  | _, _ => none
def isiD (m : Sto) (d : D) (t : Ty) : Bool := match d, t with
  | .tup _, .tup => true
  | .str _, .str => true
  | .int _, .int => true
  | .bl _, .int => true
  | .bl _, .bool => true
  | .lst _, .lst => true
  | .dct .., .dct => true
  | .wdc .., .dct => true
  | .ref n, .lst => match m[n]? with
    | some (.lst _) => true
    | _ => false
  | .ref n, .dct => match m[n]? with
    | some (.dct ..) => true
    | some (.fdc ..) => true
    | _ => false
  | .ref n, .tup => match m[n]? with
    | some (.tup _) => true
    | _ => false
  | _, _ => false
/-- a method that changes nothing -/
def metD (m : Sto) (b : Met) (d : D) (ds : List D) : Option D := match b, d, ds with
  | .get1, .dct ks vs, [k] => (dKey k).map fun q => (getK ks vs q).getD .non
  | .get2, .dct ks vs, [k, x] => (dKey k).map fun q => (getK ks vs q).getD x
  | .get1, .wdc ks vs, [.str k] => some ((getK ks vs (.inr k)).getD .non)
  | .get2, .wdc ks vs, [.str k, x] => some ((getK ks vs (.inr k)).getD x)
  | .get1, .ref n, [k] => match m[n]? with
    | some (.dct ks vs) => (dKey k).map fun q => (getK ks vs q).getD .non
    | _ => none
  | .join, .str z, [.lst xs] => match strsOf xs with
    | some ys => if (ys.map (·.length)).sum + ys.length * z.length ≤ 16777216 then some (.str (Txt.join z ys)) else none
    | none => none
  | _, _, _ => none
/-- xs.append(x) -/
def appD (d : D) (ds : List D) : M D := fun m => match d, ds with
  | .ref n, [x] => match m[n]? with
    | some (.lst xs) => if xs.length < sizeLine then .ok .non (m.set n (.lst (xs ++ [x]))) else .bad
    | _ => .bad
  | _, _ => .bad
/-- o[i] = x -/
def setD (o i x : D) : M Unit := fun m => match o with
  | .ref n => match m[n]? with
    | some (.lst xs) => match i with
      | .int k => match ixN xs.length k with
        | some j => .ok () (m.set n (.lst (xs.set j x)))
        | none => .bad
      | _ => .bad
    | some (.dct ks vs) => match dKey i with
      | some q => if ks.length < sizeLine then .ok () (m.set n (.dct (putK ks vs q x).1 (putK ks vs q x).2)) else .bad
      | none => .bad
    | _ => .bad
  | _ => .bad
/-- a dict that is not changed any more -/
def lckM (x : D) : M D := fun m => match x with
  | .ref n => match m[n]? with
    | some (.dct ks vs) => .ok x (m.set n (.fdc ks vs))
    | _ => .bad
  | _ => .bad
/-- d.update(e) -/
def updD (d : D) (ds : List D) : M D := fun m => match d, ds with
  | .ref n, [.dct qs ws] => match m[n]? with
    | some (.dct ks vs) => if ks.length + qs.length ≤ sizeLine then .ok .non (m.set n (.dct (putAllK ks vs qs ws).1 (putAllK ks vs qs ws).2)) else .bad
    | _ => .bad
  | _, _ => .bad
def splice : List Bool → List D → Option (List D)
  | true :: st, d :: ds => match d, splice st ds with
    | .tup xs, some r => some (xs ++ r)
    | .lst xs, some r => some (xs ++ r)
    | _, _ => none
  | false :: st, d :: ds => (splice st ds).map (d :: ·)
  | [], [] => some []
  | _, _ => none
def pairsD : List D → List D → Option (List Key × List D)
  | [], [] => some ([], [])
  | k :: ks, v :: vs => match dKey k, pairsD ks vs with
    | some q, some (a, b) => some (q :: a, v :: b)
    | _, _ => none
  | _, _ => none
/-- what a walk gives, and what must stay as it is -/
inductive Wk where
  | its (xs : List D)
  | live (n : Nat)
def enumD : Nat → List D → List D
  | _, [] => []
  | i, x :: xs => .tup [.int i, x] :: enumD (i + 1) xs
def zipD : List D → List D → List D
  | x :: xs, y :: ys => .tup [x, y] :: zipD xs ys
  | _, _ => []
def strD (x : Str) : List D := x.cps.toList.map fun c => .str ⟨#[c]⟩
def rngD (lo : Int) (n : Nat) : List D := (List.range n).map fun (i : Nat) => .int (lo + (i : Int))
def small62 (i : Int) : Bool := decide (-(2 ^ 62) ≤ i) && decide (i < 2 ^ 62)

/-! ### the run of expressions -/
def cmpM (o : CmpOp) (x y : D) : M Bool := fun m => match cmpD m o x y with
  | some b => .ok b m
  | none => .bad
def truM (x : D) : M Bool := fun m => match truD m x with
  | some b => .ok b m
  | none => .bad
/-- values put into the parameters' order -/
def arrange (vs : List D) : List Nat → Option (List D)
  | [] => some []
  | i :: r => match vs[i]?, arrange vs r with
    | some v, some l => some (v :: l)
    | _, _ => none
/-- what a turn of a loop ends with -/
inductive Fl where
  | nx (r : Env)
  | rt (d : D)
  | bk (r : Env)
  | ct (r : Env)
def forL (body : D → Env → M Fl) : List D → Env → M Fl
  | [], r => M.ret (.nx r)
  | x :: xs, r => (body x r).bnd fun f => match f with
    | .nx r1 => forL body xs r1
    | .ct r1 => forL body xs r1
    | .bk r1 => M.ret (.nx r1)
    | .rt d => M.ret (.rt d)
def forR (body : D → Env → M Fl) (n : Nat) : Nat → Nat → Env → M Fl
  | 0, _, _ => M.bad
  | k + 1, i, r => fun m => match m[n]? with
    | some (.lst xs) => match xs[i]? with
      | some x => (body x r).bnd (fun f => match f with
        | .nx r1 => forR body n k (i + 1) r1
        | .ct r1 => forR body n k (i + 1) r1
        | .bk r1 => M.ret (.nx r1)
        | .rt d => M.ret (.rt d)) m
      | none => .ok (.nx r) m
    | _ => .bad
def forW (body : D → Env → M Fl) (w : Wk) (r : Env) : M Fl := match w with
  | .its xs => forL body xs r
  | .live n => fun m => match m[n]? with
    | some (.lst xs) => forR body n (xs.length + 1) 0 r m
    | _ => .bad
/-- a comprehension's turns: each gives an item or none -/
def lcL (one : D → M (Option D)) : List D → M (List D)
  | [] => M.ret []
  | x :: xs => (one x).bnd fun o => (lcL one xs).bnd fun r => M.ret (match o with
    | some d => d :: r
    | none => r)
def lcR (one : D → M (Option D)) (n : Nat) : Nat → Nat → M (List D)
  | 0, _ => M.bad
  | k + 1, i => fun m => match m[n]? with
    | some (.lst xs) => match xs[i]? with
      | some x => ((one x).bnd fun o => (lcR one n k (i + 1)).bnd fun r => M.ret (match o with
        | some d => d :: r
        | none => r)) m
      | none => .ok [] m
    | _ => .bad
def lcW (one : D → M (Option D)) (w : Wk) : M (List D) := match w with
  | .its xs => lcL one xs
  | .live n => fun m => match m[n]? with
    | some (.lst xs) => lcR one n (xs.length + 1) 0 m
    | _ => .bad
mutual
/-- the names of a target -/
def Tg.slots : Tg → List Nat
  | .nm i => [i]
  | .tp ts => ts.slots
  | .sb .. => []
def Tgs.slots : Tgs → List Nat
  | .n => []
  | .c t r => t.slots ++ r.slots
end
def Tgs.len : Tgs → Nat
  | .n => 0
  | .c _ r => r.len + 1
def wipeD (r : Env) : List Nat → Env
  | [] => r
  | v :: vs => (wipeD r vs).set v none
def seqW (m : Sto) : D → Option Wk
  | .tup xs => some (.its xs)
  | .lst xs => some (.its xs)
  | .str x => some (.its (strD x))
  | .ref n => match m[n]? with
    | some (.lst _) => some (.live n)
    | some (.tup xs) => some (.its xs)
    | some (.fdc ks _) => some (.its (ks.map keyD))
    | _ => none
  | _ => none
def enmW (m : Sto) : D → Option Wk
  | .tup xs => some (.its (enumD 0 xs))
  | .str x => some (.its (enumD 0 (strD x)))
  | .ref n => match m[n]? with
    | some (.tup xs) => some (.its (enumD 0 xs))
    | _ => none
  | _ => none
def zipW : D → D → Option Wk
  | .tup xs, .tup ys => some (.its (zipD xs ys))
  | .lst xs, .lst ys => some (.its (zipD xs ys))
  | _, _ => none
/-- zip of a text and a tuple -/
def zpsW : D → D → Option Wk
  | .str x, .tup ys => some (.its (zipD (strD x) ys))
  | _, _ => none
/-- texts one behind another -/
def catS : Str → List D → Option D
  | acc, [] => some (.str acc)
  | acc, .str y :: r => if (acc ++ y).length ≤ sizeLine then catS (acc ++ y) r else none
  | _, _ :: _ => none
/-- the receiver is what the method asks for -/
def recOk (m : Sto) (b : Met) (d : D) : Bool := match b, d with
  | .append, .ref n => match m[n]? with
    | some (.lst _) => true
    | _ => false
  | .get1, .dct .. => true
  | .get2, .dct .. => true
  | .get2, .wdc .. => true
  | .join, .str _ => true
  | .get1, .ref n => match m[n]? with
    | some (.dct ..) => true
    | _ => false
  | .update, .ref n => match m[n]? with
    | some (.dct ..) => true
    | _ => false
  | _, _ => false
def recM (b : Met) (d : D) : M Unit := fun m => if recOk m b d then .ok () m else .bad
def metM (b : Met) (x : D) (ds : List D) : M D := fun m => match b with
  | .append => appD x ds m
  | .update => updD x ds m
  | b => match metD m b x ds with
    | some d => .ok d m
    | none => .bad
def optM {α : Type} (f : Sto → Option α) : M α := fun m => match f m with
  | some a => .ok a m
  | none => .bad
section
variable (cl : Nat → List D → M D) (C : List D)
mutual
def ev : E → Env → M D
  | .loc i, r => match r[i]? with
    | some (some d) => M.ret d
    | _ => M.bad
  | .cst d, _ => M.ret d
  | .glo i, _ => M.opt C[i]?
  | .tup es, r => (evs es r).bnd fun ds => if ds.length ≤ sizeLine then M.ret (.tup ds) else M.bad
  | .lst es, r => (evs es r).bnd fun ds => if ds.length ≤ sizeLine then M.ret (.lst ds) else M.bad
  | .lsm es, r => (evs es r).bnd fun ds => if ds.length ≤ sizeLine then (fun m => .ok (.ref m.length) (m ++ [.lst ds])) else M.bad
  | .tpm a, r => (ev a r).bnd fun x => fun m => match lstOf m x with
    | some xs => .ok (.ref m.length) (m ++ [.tup xs])
    | none => .bad
  | .dsm ks vs, _ => fun m => .ok (.ref m.length) (m ++ [.dct ks vs])
  | .dspc k v, r => (ev k r).bnd fun x => (ev v r).bnd fun y => fun m => match dKey x with
    | some q => .ok (.ref m.length) (m ++ [.dct [q] [y]])
    | none => .bad
  | .lck a, r => (ev a r).bnd fun x => lckM x
  | .tp0, _ => fun m => .ok (.ref m.length) (m ++ [.tup []])
  | .tst es st, r => (evs es r).bnd fun ds => M.opt ((splice st ds).bind fun xs => if xs.length ≤ sizeLine then some (.tup xs) else none)
  | .fst es, r => (evs es r).bnd fun ds => M.opt (catS Str.empty ds)
  | .dsp ks vs, r => (evs ks r).bnd fun kd => (evs vs r).bnd fun vd => M.opt ((pairsD kd vd).map fun p => .dct (putAllK [] [] p.1 p.2).1 (putAllK [] [] p.1 p.2).2)
  | .mrg a b, r => (ev a r).bnd fun x => match x with
    | .dct ks vs => (ev b r).bnd fun y => match y with
      | .dct qs ws => if ks.length + qs.length ≤ sizeLine then M.ret (.dct (putAllK ks vs qs ws).1 (putAllK ks vs qs ws).2) else M.bad
      | _ => M.bad
    | _ => M.bad
  | .bin o a b, r => (ev a r).bnd fun x => (ev b r).bnd fun y => optM fun m => binD m o x y
  | .neg a, r => (ev a r).bnd fun x => match x with
    | .int i => M.ret (.int (-i))
    | _ => M.bad
  | .cmp o a b, r => (ev a r).bnd fun x => (ev b r).bnd fun y => (cmpM o x y).bnd fun k => M.ret (.bl k)
  | .chn o p a b c, r => (ev a r).bnd fun x => (ev b r).bnd fun y => (cmpM o x y).bnd fun k => if k then (ev c r).bnd fun z => (cmpM p y z).bnd fun k => M.ret (.bl k) else M.ret (.bl false)
  | .and es, r => evA es r
  | .or es, r => evO es r
  | .not a, r => (ev a r).bnd fun x => match x with
    | .bl b => M.ret (.bl (!b))
    | _ => M.bad
  | .ite t a b, r => (evT t r).bnd fun k => if k then ev a r else ev b r
  | .sub a i, r => (ev a r).bnd fun x => (ev i r).bnd fun y => optM fun m => ixD m x y
  | .sli a lo hi, r => (ev a r).bnd fun x => (evo lo r).bnd fun l => (evo hi r).bnd fun h => optM fun m => sliD m x l h
  | .rev a, r => (ev a r).bnd fun x => optM fun m => revD m x
  | .call f es, r => (evs es r).bnd fun ds => cl f ds
  | .calk f es ks pm, r => (evs es r).bnd fun ds => (evs ks r).bnd fun kd => (M.opt (arrange (ds ++ kd) pm)).bnd fun vs => cl f vs
  | .blt b es, r => (evs es r).bnd fun ds => optM fun m => bltD m b ds
  | .isi e t, r => (ev e r).bnd fun x m => .ok (.bl (isiD m x t)) m
  | .met b e es, r => (ev e r).bnd fun x => (recM b x).bnd fun _ => (evs es r).bnd fun ds => metM b x ds
  | .lc t i c e, r => ((evi i r).bnd fun w => (lcW (fun x => (asT t x (wipeD r t.slots)).bnd fun r1 => (evA1 c r1).bnd fun k => if k then (ev e r1).bnd fun d => M.ret (some d) else M.ret none) w).calm.bnd fun ds => if ds.length ≤ sizeLine then M.ret (.lst ds) else M.bad)
def evs : Es → Env → M (List D)
  | .n, _ => M.ret []
  | .c e es, r => (ev e r).bnd fun d => (evs es r).bnd fun ds => M.ret (d :: ds)
def evo : OE → Env → M (Option Int)
  | .no, _ => M.ret none
  | .so e, r => (ev e r).bnd fun d => match d with
    | .int i => M.ret (some i)
    | _ => M.bad
/-- and, or of values: all but the last are truth values -/
def evA : Es → Env → M D
  | .n, _ => M.bad
  | .c e es, r => match es with
    | .n => ev e r
    | .c .. => (ev e r).bnd fun d => match d with
      | .bl true => evA es r
      | .bl false => M.ret (.bl false)
      | _ => M.bad
def evO : Es → Env → M D
  | .n, _ => M.bad
  | .c e es, r => match es with
    | .n => ev e r
    | .c .. => (ev e r).bnd fun d => match d with
      | .bl false => evO es r
      | .bl true => M.ret (.bl true)
      | _ => M.bad
/-- tests -/
def evT : E → Env → M Bool
  | .and es, r => evA1 es r
  | .or es, r => evO1 es r
  | .not a, r => (evT a r).bnd fun k => M.ret (!k)
  | .ite t a b, r => (evT t r).bnd fun k => if k then evT a r else evT b r
  | .cmp o a b, r => (ev a r).bnd fun x => (ev b r).bnd fun y => cmpM o x y
  | .chn o p a b c, r => (ev a r).bnd fun x => (ev b r).bnd fun y => (cmpM o x y).bnd fun k => if k then (ev c r).bnd fun z => cmpM p y z else M.ret false
  | .loc i, r => match r[i]? with
    | some (some d) => truM d
    | _ => M.bad
  | .call f es, r => ((evs es r).bnd fun ds => cl f ds).bnd truM
  | .isi e t, r => (ev e r).bnd fun x m => .ok (isiD m x t) m
  | .blt b es, r => ((evs es r).bnd fun ds => optM fun m => bltD m b ds).bnd truM
  | _, _ => M.bad
def evA1 : Es → Env → M Bool
  | .n, _ => M.ret true
  | .c e es, r => (evT e r).bnd fun k => if k then evA1 es r else M.ret false
def evO1 : Es → Env → M Bool
  | .n, _ => M.ret false
  | .c e es, r => (evT e r).bnd fun k => if k then M.ret true else evO1 es r
def evi : It → Env → M Wk
  | .seq e, r => (ev e r).bnd fun d => optM fun m => seqW m d
  | .rg1 e, r => (ev e r).bnd fun d => match d with
    | .int n => if small62 n then M.ret (.its (rngD 0 n.toNat)) else M.bad
    | _ => M.bad
  | .rg2 a b, r => (ev a r).bnd fun d => (ev b r).bnd fun f => match d, f with
    | .int i, .int j => if small62 i && small62 j then M.ret (.its (rngD i (j - i).toNat)) else M.bad
    | _, _ => M.bad
  | .enm e, r => (ev e r).bnd fun d => optM fun m => enmW m d
  | .zip a b, r => (ev a r).bnd fun d => (ev b r).bnd fun f => M.opt (zipW d f)
  | .zps a b, r => (ev a r).bnd fun d => (ev b r).bnd fun f => M.opt (zpsW d f)
def asT : Tg → D → Env → M Env
  | .nm i, d, r => if i < r.length then M.ret (r.set i (some d)) else M.bad
  | .tp ts, d, r => match d with
    | .tup ds => if ds.length = ts.len then asTs ts ds r else M.bad
    | _ => M.bad
  | .sb o i, d, r => (ev o r).bnd fun x => (ev i r).bnd fun y => (setD x y d).bnd fun _ => M.ret r
def asTs : Tgs → List D → Env → M Env
  | .n, [], r => M.ret r
  | .c t ts, d :: ds, r => (asT t d r).bnd fun r1 => asTs ts ds r1
  | _, _, _ => M.bad
end
mutual
def ex : S → Env → M Fl
  | .asg t e, r => (ev cl C e r).bnd fun d => (asT cl C t d r).bnd fun r1 => M.ret (.nx r1)
  | .exp e, r => (ev cl C e r).bnd fun _ => M.ret (.nx r)
  | .ret e, r => (ev cl C e r).bnd fun d => M.ret (.rt d)
  | .retn, _ => M.ret (.rt .non)
  | .iff c a b, r => (evT cl C c r).bnd fun k => if k then exs a r else exs b r
  | .fr t i b, r => (evi cl C i r).bnd fun w => forW (fun x r1 => (asT cl C t x r1).bnd fun r2 => exs b r2) w r
  | .whl _ _, _ => M.bad
  | .brk, r => M.ret (.bk r)
  | .cnt, r => M.ret (.ct r)
  | .pas, r => M.ret (.nx r)
  | .rai _ _, _ => M.bad
def exs : Ss → Env → M Fl
  | .n, r => M.ret (.nx r)
  | .c s ss, r => (ex s r).bnd fun f => match f with
    | .nx r1 => exs ss r1
    | f => M.ret f
end
end
/-- a def: its slots, its parameters, its defaults, its body -/
structure Fn where
  n : Nat
  ps : Nat
  dfl : List D
  body : Ss
/-- the f-th def called, so many calls deep at most -/
def run (F : List Fn) (C : List D) : Nat → Nat → List D → M D
  | 0, _, _ => M.bad
  | k + 1, f, ds => match F[f]? with
    | some g =>
      let vs := ds ++ g.dfl.drop (g.dfl.length + ds.length - g.ps)
      if vs.length = g.ps then (exs (run F C k) C g.body (vs.map some ++ List.replicate (g.n - g.ps) none)).bnd fun f => match f with
        | .rt d => M.ret d
        | .nx _ => M.ret .non
        | _ => M.bad
      else M.bad
    | none => M.bad
theorem bnd_ok {α β : Type} {x : M α} {f : α → M β} {m : Sto} {b : β} {m2 : Sto} (h : x.bnd f m = .ok b m2) : ∃ a m1, x m = .ok a m1 ∧ f a m1 = .ok b m2 := by
  unfold M.bnd at h
  cases e : x m with
  | ok a m1 => rw [e] at h; exact ⟨a, m1, rfl, h⟩
  | exc _ _ => rw [e] at h; cases h
  | bad => rw [e] at h; cases h
theorem run_dfl {F : List Fn} {C : List D} {i : Nat} {g : Fn} {a : Nat} {dd : List D} (hF : F[i]? = some g) (hd : dd = g.dfl.drop (g.dfl.length + a - g.ps)) (hl : a + dd.length = g.ps) : ∀ (n : Nat) (ds : List D), ds.length = a → run F C n i ds = run F C n i (ds ++ dd)
  | 0, _, _ => rfl
  | n + 1, ds, hds => by
    have e : ds ++ dd ++ g.dfl.drop (g.dfl.length + (ds ++ dd).length - g.ps) = ds ++ dd := by
      rw [List.drop_eq_nil_of_le (by rw [List.length_append, hds]; omega), List.append_nil]
    have e2 : ds ++ g.dfl.drop (g.dfl.length + ds.length - g.ps) = ds ++ dd := by rw [hds, ← hd]
    unfold run
    rw [hF]
    show (if (ds ++ g.dfl.drop (g.dfl.length + ds.length - g.ps)).length = g.ps then _ else M.bad) = (if (ds ++ dd ++ g.dfl.drop (g.dfl.length + (ds ++ dd).length - g.ps)).length = g.ps then _ else M.bad)
    rw [e, e2]
theorem run_all {F : List Fn} {C : List D} {i n : Nat} {g : Fn} {ds : List D} (hF : F[i]? = some g) (hl : ds.length = g.ps) : run F C (n + 1) i ds = ((exs (run F C n) C g.body (ds.map some ++ List.replicate (g.n - g.ps) none)).bnd fun f => match f with
    | .rt d => M.ret d
    | .nx _ => M.ret .non
    | _ => M.bad) := by
  conv => lhs; unfold run
  rw [hF]
  have e : ds ++ g.dfl.drop (g.dfl.length + ds.length - g.ps) = ds := by rw [List.drop_eq_nil_of_le (by omega), List.append_nil]
  show (if (ds ++ g.dfl.drop (g.dfl.length + ds.length - g.ps)).length = g.ps then _ else M.bad) = _
  rw [e, if_pos hl]
/-! total runs -/
def wp {α : Type} (x : M α) (m : Sto) (Q : α → Sto → Prop) : Prop := ∃ a m', x m = .ok a m' ∧ Q a m'
theorem wp_bnd {α β : Type} {x : M α} {f : α → M β} {m : Sto} {Q : β → Sto → Prop} (h : wp x m fun a m1 => wp (f a) m1 Q) : wp (x.bnd f) m Q := by
  obtain ⟨a, m1, e, b, m2, e2, q⟩ := h
  exact ⟨b, m2, by unfold M.bnd; rw [e]; exact e2, q⟩
theorem wp_ret {α : Type} {a : α} {m : Sto} {Q : α → Sto → Prop} (h : Q a m) : wp (M.ret a) m Q := ⟨a, m, rfl, h⟩
theorem wp_of {α : Type} {x : M α} {m m' : Sto} {a : α} {Q : α → Sto → Prop} (e : x m = .ok a m') (h : Q a m') : wp x m Q := ⟨a, m', e, h⟩
theorem wp_mono {α : Type} {x : M α} {m : Sto} {Q Q' : α → Sto → Prop} (h : wp x m Q) (k : ∀ a m', Q a m' → Q' a m') : wp x m Q' := let ⟨a, m', e, q⟩ := h; ⟨a, m', e, k a m' q⟩
end Mp
end
section -- MpP
set_option Elab.async false
set_option linter.all false
set_option maxRecDepth 100000
set_option maxHeartbeats 4000000
set_option autoImplicit false
/-! Mp, part P: a < b of tuples, the items behind the first that differs being of any kind. -/
namespace Mp
open PySem PySem.SeqAt PyProof.Rows
open AutoSeq1 (wpAny_loadPart')
open MeetsSeq MeetsSeq2 MeetsSeq3 SeqRoads2

theorem tuple_lt1 (l b : Addr) (items items2 : Array Value) (n n2 : Nat) (dd dd2 : Option Addr) (sl sl2 : Array (Option Value)) (e r : Nat → Bool) :
    Meets (Builtin.«tuple.__lt__» ⟨[.ref l, .ref b], []⟩)
      (fun A R s => s.heap.get? l = some { cls := .type "tuple", dict := dd, data := .seq items n, slots := sl } ∧ s.heap.get? b = some { cls := .type "tuple", dict := dd2, data := .seq items2 n2, slots := sl2 } ∧
        (∀ j (h1 : j < items.size) (h2 : j < items2.size), EqAt A.in1 s items[j] items2[j] (e j)) ∧ (∀ j (h1 : j < items.size) (h2 : j < items2.size), (∀ i, i < j → e i = true) → e j = false → RcLt A.in1 s items[j] items2[j] (r j)) ∧
        R (.ok (.ret (.bool (firstLt e r (decide (items.size < items2.size)) (List.range (min items.size items2.size)))))) s) :=
  .of_wp fun prog w A R s h => by
    obtain ⟨hp, g, d, tk, os⟩ := s
    obtain ⟨hl, hb, he, hr, h⟩ := h
    have f2 := AutoSeq1.sub_tuple_tuple
    have hZ : (items.toList.zip items2.toList).length = min items.size items2.size := by simp
    wp_walk using wpAny_loadPart' hl, wpAny_loadPart' hb, wpAny_forIn_list _ (fun rest b s' => b.1 = none ∧ s' = ⟨hp, g, d, tk, os⟩ ∧ ∃ i, rest = (items.toList.zip items2.toList).drop i ∧ (∀ k, k < i → e k = true) ∧
      R (.ok (.ret (.bool (firstLt e r (decide (items.size < items2.size)) ((List.range (min items.size items2.size)).drop i))))) ⟨hp, g, d, tk, os⟩) _
    case turn =>
      rintro ⟨y, x⟩ rest b s' ⟨hb', rfl, i, hz, hp', hR⟩
      have hlt : i < (items.toList.zip items2.toList).length := by
        rcases Nat.lt_or_ge i (items.toList.zip items2.toList).length with h' | h'
        · exact h'
        · rw [List.drop_of_length_le h'] at hz; cases hz
      have hm : i < min items.size items2.size := hZ ▸ hlt
      have h1 : i < items.size := Nat.lt_of_lt_of_le hm (Nat.min_le_left _ _)
      have h2 : i < items2.size := Nat.lt_of_lt_of_le hm (Nat.min_le_right _ _)
      rw [List.drop_eq_getElem_cons hlt] at hz
      injection hz with hyx hrest
      have hy : y = items[i] := by have := congrArg Prod.fst hyx; simpa using this
      have hx : x = items2[i] := by have := congrArg Prod.snd hyx; simpa using this
      subst hy hx
      have hd : (List.range (min items.size items2.size)).drop i = i :: (List.range (min items.size items2.size)).drop (i + 1) := by simp [List.drop_eq_getElem_cons, hm]
      rw [hd] at hR
      refine wpAny_bind (he i h1 h2 prog w _ _ ?_)
      cases hy : e i with
      | true =>
        rw [firstLt_yes hy] at hR
        wp_walk
        refine ⟨rfl, rfl, i + 1, hrest, fun k hk => ?_, hR⟩
        rcases Nat.lt_or_ge k i with q | q
        · exact hp' k q
        · have : k = i := by omega
          rw [this]; exact hy
      | false =>
        rw [firstLt_no hy] at hR
        refine (show wpAny _ _ (do
          rule "tuple.compare.by-the-first-pair-that-differs"
          let x ← richCompare CmpOp.Lt items[i] items2[i]
          let y ← ret x
          pure (ForInStep.done (some y, ()))) _ _ _ from ?_)
        refine wpAny_bind (wpAny_rule ?_)
        refine wpAny_bind (hr i h1 h2 hp' hy prog w _ _ ?_)
        wp_walk
        exact ⟨_, rfl, hR⟩
    case fin =>
      rintro ⟨b1, b2⟩ s' ⟨hb', rfl, i, hz, _, hR⟩
      simp only at hb'
      subst hb'
      have hge : min items.size items2.size ≤ i := by
        rcases Nat.lt_or_ge i (items.toList.zip items2.toList).length with h' | h'
        · rw [List.drop_eq_getElem_cons h'] at hz; cases hz
        · exact hZ ▸ h'
      rw [List.drop_of_length_le (by simpa using hge)] at hR
      wp_walk
      exact ⟨_, rfl, by simpa [Builtin.Tuple.tupleCompareSizes, firstLt] using hR⟩
    case h =>
      exact ⟨rfl, rfl, 0, rfl, fun k hk => absurd hk (Nat.not_lt_zero k), by simpa using h⟩
theorem lt_tuples {A : Around} {s : Shared} {l b : Addr} {items items2 : Array Value} {e r : Nat → Bool} (hl : s.heap.IsTuple l items) (hb : s.heap.IsTuple b items2) (hu : A.units < cLine)
    (he : ∀ j (h1 : j < items.size) (h2 : j < items2.size), EqAt A.in1 s items[j] items2[j] (e j)) (hr : ∀ j (h1 : j < items.size) (h2 : j < items2.size), (∀ i, i < j → e i = true) → e j = false → RcLt A.in1 s items[j] items2[j] (r j)) :
    RcLt A s (.ref l) (.ref b) (firstLt e r (decide (items.size < items2.size)) (List.range (min items.size items2.size))) := fun prog w E Q h => by
  obtain ⟨⟨cls, dd, data, sl⟩, ho, hc, n, hd⟩ := id hl
  obtain ⟨⟨cls2, dd2, data2, sl2⟩, ho2, hc2, n2, hd2⟩ := id hb
  simp only at hc hd hc2 hd2
  subst hc hd hc2 hd2
  exact richCompare_meets_room (op := .Lt) ⟨_, ho, rfl⟩ ⟨_, ho2, rfl⟩ F.slot_tuple_lt F.entry_tuple_lt (F.args_tuple_lt_2 _ _) (tuple_lt1 l b items items2 n n2 dd dd2 sl sl2 e r)
    ⟨ho, ho2, he, hr, show Value.bool (firstLt e r (decide (items.size < items2.size)) (List.range (min items.size items2.size))) ≠ Value.notImplemented ∧ Q (.bool (firstLt e r (decide (items.size < items2.size)) (List.range (min items.size items2.size)))) s from ⟨(fun x => nomatch x), h⟩⟩ hu

theorem firstLt_P : ∀ (xs ys : List PyData) (b : Bool), ltPL xs ys = some b →
    firstLt (pairEq xs ys) (fun j => (ltP (xs.getD j .none) (ys.getD j .none)).getD false) (decide (xs.length < ys.length)) (List.range (min xs.length ys.length)) = b
  | [], [], b, h => by simp [ltPL] at h; simp [firstLt, h]
  | [], y :: ys, b, h => by simp [ltPL] at h; simp [firstLt, h]
  | x :: xs, [], b, h => by simp [ltPL] at h; simp [firstLt, h]
  | x :: xs, y :: ys, b, h => by
    simp only [ltPL] at h
    have em : min (x :: xs).length (y :: ys).length = min xs.length ys.length + 1 := by
      rw [List.length_cons, List.length_cons]
      omega
    have ed : decide ((x :: xs).length < (y :: ys).length) = decide (xs.length < ys.length) := by
      rw [List.length_cons, List.length_cons]
      exact decide_eq_decide.mpr (by omega)
    rw [em, ed, List.range_succ_eq_map]
    cases hx : PyData.eqv x y with
    | true =>
      rw [hx, if_pos rfl] at h
      have ih := firstLt_P xs ys b h
      rw [firstLt_yes (show pairEq (x :: xs) (y :: ys) 0 = true from hx), PySem.W.firstLt_map, ← ih]
      rfl
    | false =>
      rw [hx, if_neg (by decide)] at h
      rw [firstLt_no (show pairEq (x :: xs) (y :: ys) 0 = false from hx)]
      show (ltP x y).getD false = b
      rw [h]; rfl
mutual
theorem rcLt_P : ∀ (p q : PyData) (A : Around) (s : Shared) (a b : Value) (as bs : List Addr) (k : Bool), Reads s.heap a p as → Reads s.heap b q bs → p.canLay0 = true → q.canLay0 = true → A.units + min p.depth q.depth < cLine → ltP p q = some k → RcLt A s a b k
  | .int x, q, A, s, a, b, as, bs, k, ra, rb, _, _, _, h => by
    cases q with
    | int y =>
      simp only [ltP, Option.some.injEq] at h
      subst h
      cases ra
      cases rb
      intro prog w E Q hq
      exact P.lt_int hq
    | _ => simp [ltP] at h
  | .str x, q, A, s, a, b, as, bs, k, ra, rb, _, _, _, h => by
    cases q with
    | str y =>
      simp only [ltP, Option.some.injEq] at h
      subst h
      cases ra
      cases rb
      intro prog w E Q hq
      exact P.lt_str hq
    | _ => simp [ltP] at h
  | .tuple xs, q, A, s, a, b, as, bs, k, ra, rb, hp, hq, hu, h => by
    cases q with
    | tuple ys =>
      simp only [ltP] at h
      have hp' : PyData.canLayAll0 xs = true := by simpa [PyData.canLay0] using hp
      have hq' : PyData.canLayAll0 ys = true := by simpa [PyData.canLay0] using hq
      cases ra with
      | @tuple l o vs n _ as₁ h1 h2 h3 h4 =>
        cases rb with
        | @tuple l' o' vs' n' _ bs₁ k1 k2 k3 k4 =>
          have n1 : vs.size = xs.length := by simpa using ReadsAll.length _ _ _ h4
          have n2 : vs'.size = ys.length := by simpa using ReadsAll.length _ _ _ k4
          rw [← firstLt_P xs ys k h, ← n1, ← n2]
          refine lt_tuples ⟨_, h1, h2, _, h3⟩ ⟨_, k1, k2, _, k3⟩ (room_here hu) (fun j j1 j2 => ?_) fun j j1 j2 hb hj => ?_
          · have := eqAt_readsAll xs ys A.in1 s vs.toList vs'.toList _ _ h4 k4 hp' hq' (room_in hu) j (by simpa using j1) (by simpa using j2)
            simpa using this
          · have := rcLt_PL xs ys A.in1 s vs.toList vs'.toList _ _ k h4 k4 hp' hq' (room_in hu) h j (by simpa using j1) (by simpa using j2) hb hj
            simpa using this
    | _ => simp [ltP] at h
  | .none, q, A, s, a, b, as, bs, k, ra, rb, _, _, _, h => by simp [ltP] at h
  | .bool _, q, A, s, a, b, as, bs, k, ra, rb, _, _, _, h => by simp [ltP] at h
  | .list _, q, A, s, a, b, as, bs, k, ra, rb, _, _, _, h => by simp [ltP] at h
  | .dict _, q, A, s, a, b, as, bs, k, ra, rb, _, _, _, h => by simp [ltP] at h
theorem rcLt_PL : ∀ (xs ys : List PyData) (A : Around) (s : Shared) (vs ws : List Value) (as bs : List Addr) (k : Bool), ReadsAll s.heap vs xs as → ReadsAll s.heap ws ys bs → PyData.canLayAll0 xs = true → PyData.canLayAll0 ys = true →
    A.units + min (PyData.depthAll xs) (PyData.depthAll ys) < cLine → ltPL xs ys = some k → ∀ j (h1 : j < vs.length) (h2 : j < ws.length), (∀ i, i < j → pairEq xs ys i = true) → pairEq xs ys j = false → RcLt A s vs[j] ws[j] ((ltP (xs.getD j .none) (ys.getD j .none)).getD false)
  | [], _, _, _, _, _, _, _, _, ra, _, _, _, _, _, j, h1, _, _, _ => by cases ra; exact absurd h1 (Nat.not_lt_zero _)
  | _ :: _, [], _, _, _, _, _, _, _, _, rb, _, _, _, _, j, _, h2, _, _ => by cases rb; exact absurd h2 (Nat.not_lt_zero _)
  | x :: xs, y :: ys, A, s, _, _, _, _, k, ra, rb, hp, hq, hu, h, j, h1, h2, hb, hj => by
    have hp' : x.canLay0 = true ∧ PyData.canLayAll0 xs = true := by simpa [PyData.canLayAll0] using hp
    have hq' : y.canLay0 = true ∧ PyData.canLayAll0 ys = true := by simpa [PyData.canLayAll0] using hq
    simp only [ltPL] at h
    cases ra with
    | cons r rs =>
      cases rb with
      | cons r' rs' =>
        cases j with
        | zero =>
          have hx : PyData.eqv x y = false := hj
          rw [hx, if_neg (by decide)] at h
          show RcLt A s _ _ ((ltP x y).getD false)
          rw [h]
          exact rcLt_P x y A s _ _ _ _ k r r' hp'.1 hq'.1 (room_head hu) h
        | succ j =>
          have hx : PyData.eqv x y = true := hb 0 (Nat.succ_pos j)
          rw [hx, if_pos rfl] at h
          exact rcLt_PL xs ys A s _ _ _ _ k rs rs' hp'.2 hq'.2 (room_tail hu) h j (Nat.lt_of_succ_lt_succ h1) (Nat.lt_of_succ_lt_succ h2) (fun i hi => hb (i + 1) (Nat.succ_lt_succ hi)) hj
end
end Mp
end
section -- MpB
set_option Elab.async false
set_option linter.all false
set_option maxRecDepth 100000
set_option maxHeartbeats 2000000
/-! Mp, part B: how data and store stand in the heap; the weakest wishes. -/
namespace Mp
open PySem L2 PyProof.Rows

/-- written in the module -/
def KTup (K : PySem.W.Frag) (a : Addr) (vs : List V) : Prop :=
  ∃ (o : Obj) (its : Array Value) (n : Nat), K.lookup a = some o ∧ o.cls = .type "tuple" ∧ o.data = .seq its n ∧ its.size ≤ sizeLine ∧ Vals vs its.toList
/-- a written dict with text keys: what a name has there -/
def KDic (K : PySem.W.Frag) (w : World) (a : Addr) (ks : List Key) (vs : List V) : Prop :=
  (∃ es n, KDict K w a es n) ∧ (∀ (i : Nat) (x : Str) (v : V), ks[i]? = some (.inr x) → vs[i]? = some v → ∃ u, PySem.W.nsIn K a x = some (some u) ∧ RelV v u) ∧
    (∀ x : Str, .inr x ∉ ks → PySem.W.nsIn K a x = some none) ∧ ks.Nodup ∧ (∀ k ∈ ks, ∃ x, k = .inr x) ∧ vs.length = ks.length
/-- where the cells stand; what is hidden (lists under construction) -/
structure J where
  ix : List Addr
  hid : List Addr
instance : Membership Addr J := ⟨fun j a => a ∈ j.ix ∨ a ∈ j.hid⟩
def J.add (j : J) (p : Addr) : J := ⟨j.ix ++ [p], j.hid⟩
def J.hide (j : J) (p : Addr) : J := ⟨j.ix, p :: j.hid⟩
theorem J.mem_ix {j : J} {a : Addr} (h : a ∈ j.ix) : a ∈ j := .inl h
section
variable (K : PySem.W.Frag) (w : World) (H : Hp) (j : J)
mutual
def Rep : D → V → Prop
  | .non, v => v = .non
  | .bl b, v => v = .bl b
  | .int i, v => v = .int i
  | .str x, v => v = .str x
  | .tup xs, v => ∃ a vs, v = .ref a ∧ ((a ∉ j ∧ Rd H a (.tup vs)) ∨ KTup K a vs) ∧ RepL xs vs
  | .lst xs, v => ∃ a vs, v = .ref a ∧ a ∉ j ∧ Rd H a (.lst vs) ∧ RepL xs vs
  | .dct ks ds, v => ∃ a vs, v = .ref a ∧ a ∉ j ∧ H a = some (.dK (ks.zip vs)) ∧ ks.length = vs.length ∧ RepL ds vs
  | .wdc ks ds, v => ∃ a vs, v = .ref a ∧ KDic K w a ks vs ∧ RepL ds vs
  | .ref n, v => ∃ a, v = .ref a ∧ j.ix[n]? = some a
def RepL : List D → List V → Prop
  | [], vs => vs = []
  | d :: ds, vs => ∃ v r, vs = v :: r ∧ Rep d v ∧ RepL ds r
end
/-- a cell of the store -/
def CellIs (a : Addr) : Cell → Prop
  | .lst xs => ∃ vs, H a = some (.lst vs) ∧ RepL K w H j xs vs
  | .dct ks ds => ∃ vs, H a = some (.dK (ks.zip vs)) ∧ ks.length = vs.length ∧ RepL K w H j ds vs ∧ ks.Nodup
  | .tup xs => ∃ o vs, H a = some (.frz o (.tup vs)) ∧ o.dict = none ∧ RepL K w H j xs vs
  | .fdc ks ds => ∃ o vs, H a = some (.frz o (.dK (ks.zip vs))) ∧ ks.length = vs.length ∧ RepL K w H j ds vs
structure Wd (m : Sto) : Prop where
  len : j.ix.length = m.length
  nd : j.ix.Nodup
  at_ : ∀ (n : Nat) (a : Addr) (c : Cell), j.ix[n]? = some a → m[n]? = some c → CellIs K w H j a c
  hd : ∀ a ∈ j.hid, a ∉ j.ix ∧ ∃ o, H a = some o
/-- a weak step: what is hidden may change -/
structure Wx (H' : Hp) (j' : J) : Prop where
  pre : ∃ t, j'.ix = j.ix ++ t
  keep : ∀ a o, a ∉ j → H a = some o → H' a = some o
  new : ∀ a, a ∈ j' → a ∈ j ∨ H a = none
  frz : ∀ a o u, H a = some (.frz o u) → H' a = some (.frz o u)
structure Ext (H' : Hp) (j' : J) : Prop extends Wx H j H' j' where
  hide : j'.hid = j.hid
  kh : ∀ a o, a ∈ j.hid → H a = some o → H' a = some o
structure RS (σ : L2.St) (r : Env) : Prop where
  len : σ.length = r.length
  at_ : ∀ (i : Nat) (d : D), r[i]? = some (some d) → ∃ v, σ[i]? = some (some v) ∧ Rep K w H j d v
end
section
variable {K : PySem.W.Frag} {w : World} {H H' H1 H2 : Hp} {j j' j1 j2 : J}
theorem frz_upd {a : Addr} {x y : HO} (h : H a = some y) (hy : ∀ o u, y ≠ .frz o u) : ∀ b o u, H b = some (.frz o u) → upd H a x b = some (.frz o u) := fun b o u q => by
  rw [upd_ne (fun z => by rw [z, h] at q; exact hy o u (Option.some.inj q))]; exact q
theorem no_dK {kvs : List (Key × V)} : ∀ o u, HO.dK kvs ≠ .frz o u := fun o u e => by cases e
theorem no_lst {xs : List V} : ∀ o u, HO.lst xs ≠ .frz o u := fun o u e => by cases e
theorem Wx.refl : Wx H j H j := ⟨⟨[], by simp⟩, fun _ _ _ h => h, fun a h => .inl h, fun _ _ _ q => q⟩
theorem Wx.trans (e : Wx H j H1 j1) (f : Wx H1 j1 H2 j2) : Wx H j H2 j2 := by
  obtain ⟨t, ht⟩ := e.pre
  obtain ⟨t', ht'⟩ := f.pre
  have nn : ∀ a, a ∉ j → ∀ o, H a = some o → a ∉ j1 := fun a ha o ho hm => by
    rcases e.new a hm with z | z
    · exact ha z
    · rw [z] at ho; cases ho
  refine ⟨⟨t ++ t', by rw [ht', ht, List.append_assoc]⟩, fun a o ha ho => f.keep a o (nn a ha o ho) (e.keep a o ha ho), fun a ha => ?_, fun a o u q => f.frz a o u (e.frz a o u q)⟩
  rcases f.new a ha with z | z
  · exact e.new a z
  · cases q : H a with
    | none => exact .inr rfl
    | some o =>
      by_cases hj : a ∈ j
      · exact .inl hj
      · rw [e.keep a o hj q] at z; cases z
theorem Wx.of_same (h : Same H H') : Wx H j H' j := ⟨⟨[], by simp⟩, fun a o _ q => h a o q, fun a q => .inl q, fun a o u q => h a _ q⟩
theorem Wx.rd (e : Wx H j H' j') {a : Addr} {u : HO} (ha : a ∉ j) (r : Rd H a u) : a ∉ j' ∧ Rd H' a u := by
  refine ⟨fun hm => ?_, ?_⟩
  · rcases e.new a hm with z | z
    · exact ha z
    · rcases r with q | ⟨o, q⟩ <;> rw [z] at q <;> cases q
  · rcases r with q | ⟨o, q⟩
    · exact .inl (e.keep a _ ha q)
    · exact .inr ⟨o, e.keep a _ ha q⟩
theorem Wx.ix (e : Wx H j H' j') {n : Nat} {a : Addr} (h : j.ix[n]? = some a) : j'.ix[n]? = some a := by
  obtain ⟨t, ht⟩ := e.pre
  rw [ht, List.getElem?_append_left (List.getElem?_eq_some_iff.mp h).1]
  exact h
theorem Ext.refl : Ext H j H j := ⟨.refl, rfl, fun _ _ _ h => h⟩
theorem Ext.trans (e : Ext H j H1 j1) (f : Ext H1 j1 H2 j2) : Ext H j H2 j2 :=
  ⟨e.toWx.trans f.toWx, f.hide.trans e.hide, fun a o ha ho => f.kh a o (by rw [e.hide]; exact ha) (e.kh a o ha ho)⟩
theorem Ext.of_same (h : Same H H') : Ext H j H' j := ⟨.of_same h, rfl, fun a o _ q => h a o q⟩
mutual
theorem Rep.wx (e : Wx H j H' j') : ∀ (d : D) (v : V), Rep K w H j d v → Rep K w H' j' d v
  | .non, v, h => by simpa [Rep] using h
  | .bl b, v, h => by simpa [Rep] using h
  | .int i, v, h => by simpa [Rep] using h
  | .str x, v, h => by simpa [Rep] using h
  | .tup xs, v, h => by
    simp only [Rep] at h ⊢
    obtain ⟨a, vs, rfl, q, r⟩ := h
    refine ⟨a, vs, rfl, ?_, RepL.wx e xs vs r⟩
    rcases q with ⟨q1, q2⟩ | q
    · exact .inl (e.rd q1 q2)
    · exact .inr q
  | .lst xs, v, h => by
    simp only [Rep] at h ⊢
    obtain ⟨a, vs, rfl, q1, q2, r⟩ := h
    obtain ⟨q3, q4⟩ := e.rd q1 q2
    exact ⟨a, vs, rfl, q3, q4, RepL.wx e xs vs r⟩
  | .dct ks ds, v, h => by
    simp only [Rep] at h ⊢
    obtain ⟨a, vs, rfl, q1, q2, l, r⟩ := h
    exact ⟨a, vs, rfl, (e.rd q1 (.inl q2)).1, e.keep _ _ q1 q2, l, RepL.wx e ds vs r⟩
  | .wdc ks ds, v, h => by
    simp only [Rep] at h ⊢
    obtain ⟨a, vs, rfl, q, r⟩ := h
    exact ⟨a, vs, rfl, q, RepL.wx e ds vs r⟩
  | .ref n, v, h => by
    simp only [Rep] at h ⊢
    obtain ⟨a, rfl, q⟩ := h
    exact ⟨a, rfl, e.ix q⟩
theorem RepL.wx (e : Wx H j H' j') : ∀ (ds : List D) (vs : List V), RepL K w H j ds vs → RepL K w H' j' ds vs
  | [], vs, h => by simpa [RepL] using h
  | d :: ds, vs, h => by
    simp only [RepL] at h ⊢
    obtain ⟨v, r, rfl, h1, h2⟩ := h
    exact ⟨v, r, rfl, Rep.wx e d v h1, RepL.wx e ds r h2⟩
end
theorem Rep.ext (e : Ext H j H' j') (d : D) (v : V) (h : Rep K w H j d v) : Rep K w H' j' d v := Rep.wx e.toWx d v h
theorem RepL.ext (e : Ext H j H' j') (ds : List D) (vs : List V) (h : RepL K w H j ds vs) : RepL K w H' j' ds vs := RepL.wx e.toWx ds vs h
theorem RS.wx (e : Wx H j H' j') {σ : L2.St} {r : Env} (h : RS K w H j σ r) : RS K w H' j' σ r :=
  ⟨h.len, fun i d q => let ⟨v, q1, q2⟩ := h.at_ i d q; ⟨v, q1, Rep.wx e d v q2⟩⟩
theorem CellIs.wx (e : Wx H j H' j') {a : Addr} {c : Cell} (k : ∀ o, H a = some o → H' a = some o) (h : CellIs K w H j a c) : CellIs K w H' j' a c := by
  cases c with
  | lst xs => obtain ⟨vs, q1, q2⟩ := h; exact ⟨vs, k _ q1, RepL.wx e _ _ q2⟩
  | dct ks ds => obtain ⟨vs, q1, l, q2, q3⟩ := h; exact ⟨vs, k _ q1, l, RepL.wx e _ _ q2, q3⟩
  | tup xs => obtain ⟨o, vs, q1, l, q2⟩ := h; exact ⟨o, vs, k _ q1, l, RepL.wx e _ _ q2⟩
  | fdc ks ds => obtain ⟨o, vs, q1, l, q2⟩ := h; exact ⟨o, vs, k _ q1, l, RepL.wx e _ _ q2⟩
theorem RS.ext (e : Ext H j H' j') {σ : L2.St} {r : Env} (h : RS K w H j σ r) : RS K w H' j' σ r :=
  ⟨h.len, fun i d q => let ⟨v, q1, q2⟩ := h.at_ i d q; ⟨v, q1, Rep.ext e d v q2⟩⟩
theorem CellIs.same (e : Same H H') {a : Addr} {c : Cell} (h : CellIs K w H j a c) : CellIs K w H' j a c := by
  cases c with
  | lst xs => obtain ⟨vs, q1, q2⟩ := h; exact ⟨vs, e _ _ q1, RepL.ext (.of_same e) _ _ q2⟩
  | dct ks ds => obtain ⟨vs, q1, l, q2, q3⟩ := h; exact ⟨vs, e _ _ q1, l, RepL.ext (.of_same e) _ _ q2, q3⟩
  | tup xs => obtain ⟨o, vs, q1, l, q2⟩ := h; exact ⟨o, vs, e _ _ q1, l, RepL.ext (.of_same e) _ _ q2⟩
  | fdc ks ds => obtain ⟨o, vs, q1, l, q2⟩ := h; exact ⟨o, vs, e _ _ q1, l, RepL.ext (.of_same e) _ _ q2⟩
theorem Wd.same (e : Same H H') {m : Sto} (h : Wd K w H j m) : Wd K w H' j m := ⟨h.len, h.nd, fun n a c h1 h2 => (h.at_ n a c h1 h2).same e, fun a ha => ⟨(h.hd a ha).1, let ⟨o, q⟩ := (h.hd a ha).2; ⟨o, e _ _ q⟩⟩⟩
theorem Wd.there {m : Sto} (h : Wd K w H j m) {a : Addr} (ha : a ∈ j.ix) : ∃ o, H a = some o := by
  obtain ⟨n, hn, e⟩ := List.getElem_of_mem ha
  have l : n < m.length := by rw [← h.len]; exact hn
  have z := h.at_ n a m[n] (by rw [List.getElem?_eq_getElem hn, e]) (List.getElem?_eq_getElem l)
  cases hc : m[n] with
  | lst xs => rw [hc] at z; obtain ⟨vs, q, _⟩ := z; exact ⟨_, q⟩
  | dct ks ds => rw [hc] at z; obtain ⟨vs, q, _⟩ := z; exact ⟨_, q⟩
  | tup xs => rw [hc] at z; obtain ⟨o, vs, q, _⟩ := z; exact ⟨_, q⟩
  | fdc ks ds => rw [hc] at z; obtain ⟨o, vs, q, _⟩ := z; exact ⟨_, q⟩
theorem Wd.there' {m : Sto} (h : Wd K w H j m) {a : Addr} (ha : a ∈ j) : ∃ o, H a = some o := ha.elim h.there fun q => (h.hd a q).2
theorem Same.new {p : Addr} {o : HO} (h : H p = none) : Same H (upd H p o) := fun b u q => by rw [upd_ne (ne_of_none q h)]; exact q
theorem Ext.new1 {p : Addr} {o : HO} (h : H p = none) : Ext H j (upd H p o) j := .of_same (Same.new h)

/-! lists of data -/
theorem RepL.length : ∀ {ds : List D} {vs : List V}, RepL K w H j ds vs → ds.length = vs.length
  | [], vs, h => by simp only [RepL] at h; subst h; rfl
  | d :: ds, vs, h => by
    simp only [RepL] at h
    obtain ⟨v, r, rfl, _, h2⟩ := h
    rw [List.length_cons, List.length_cons, RepL.length h2]
theorem RepL.get : ∀ {ds : List D} {vs : List V} {i : Nat} {d : D}, RepL K w H j ds vs → ds[i]? = some d → ∃ v, vs[i]? = some v ∧ Rep K w H j d v
  | [], vs, i, d, h, e => by simp at e
  | x :: ds, vs, 0, d, h, e => by
    simp only [RepL] at h
    obtain ⟨v, r, rfl, h1, h2⟩ := h
    simp at e; subst e
    exact ⟨v, rfl, h1⟩
  | x :: ds, vs, i + 1, d, h, e => by
    simp only [RepL] at h
    obtain ⟨v, r, rfl, h1, h2⟩ := h
    obtain ⟨u, q1, q2⟩ := RepL.get (i := i) h2 (by simpa using e)
    exact ⟨u, by simpa using q1, q2⟩
theorem RepL.append : ∀ {ds es : List D} {vs us : List V}, RepL K w H j ds vs → RepL K w H j es us → RepL K w H j (ds ++ es) (vs ++ us)
  | [], es, vs, us, h, g => by simp only [RepL] at h; subst h; exact g
  | d :: ds, es, vs, us, h, g => by
    simp only [RepL] at h
    obtain ⟨v, r, rfl, h1, h2⟩ := h
    show RepL K w H j (d :: (ds ++ es)) (v :: (r ++ us))
    simp only [RepL]
    exact ⟨v, _, rfl, h1, RepL.append h2 g⟩
theorem RepL.cons {d : D} {ds : List D} {v : V} {vs : List V} (h : Rep K w H j d v) (g : RepL K w H j ds vs) : RepL K w H j (d :: ds) (v :: vs) := by
  simp only [RepL]; exact ⟨v, vs, rfl, h, g⟩
theorem RepL.nil : RepL K w H j [] [] := by simp only [RepL]
theorem RepL.take : ∀ {ds : List D} {vs : List V} (n : Nat), RepL K w H j ds vs → RepL K w H j (ds.take n) (vs.take n)
  | _, _, 0, _ => by simp only [List.take_zero]; exact RepL.nil
  | [], vs, n + 1, h => by simp only [RepL] at h; subst h; simp only [List.take_nil]; exact RepL.nil
  | d :: ds, vs, n + 1, h => by
    simp only [RepL] at h
    obtain ⟨v, r, rfl, h1, h2⟩ := h
    exact RepL.cons h1 (RepL.take n h2)
theorem RepL.drop : ∀ {ds : List D} {vs : List V} (n : Nat), RepL K w H j ds vs → RepL K w H j (ds.drop n) (vs.drop n)
  | _, _, 0, h => h
  | [], vs, n + 1, h => by simp only [RepL] at h; subst h; simp only [List.drop_nil]; exact RepL.nil
  | d :: ds, vs, n + 1, h => by
    simp only [RepL] at h
    obtain ⟨v, r, rfl, h1, h2⟩ := h
    exact RepL.drop n h2
theorem RepL.reverse : ∀ {ds : List D} {vs : List V}, RepL K w H j ds vs → RepL K w H j ds.reverse vs.reverse
  | [], vs, h => by simp only [RepL] at h; subst h; exact RepL.nil
  | d :: ds, vs, h => by
    simp only [RepL] at h
    obtain ⟨v, r, rfl, h1, h2⟩ := h
    rw [List.reverse_cons, List.reverse_cons]
    exact (RepL.reverse h2).append (RepL.cons h1 RepL.nil)
theorem RepL.set : ∀ {ds : List D} {vs : List V} {d : D} {v : V} (i : Nat), Rep K w H j d v → RepL K w H j ds vs → RepL K w H j (ds.set i d) (vs.set i v)
  | [], vs, d, v, i, hd, h => by simp only [RepL] at h; subst h; exact RepL.nil
  | x :: ds, vs, d, v, 0, hd, h => by
    simp only [RepL] at h
    obtain ⟨u, r, rfl, h1, h2⟩ := h
    exact RepL.cons hd h2
  | x :: ds, vs, d, v, i + 1, hd, h => by
    simp only [RepL] at h
    obtain ⟨u, r, rfl, h1, h2⟩ := h
    exact RepL.cons h1 (RepL.set i hd h2)
theorem RepL.one {d : D} {vs : List V} (h : RepL K w H j [d] vs) : ∃ v, vs = [v] ∧ Rep K w H j d v := by
  simp only [RepL] at h
  obtain ⟨v, r, rfl, h1, rfl⟩ := h
  exact ⟨v, rfl, h1⟩
theorem RepL.two {d e : D} {vs : List V} (h : RepL K w H j [d, e] vs) : ∃ v u, vs = [v, u] ∧ Rep K w H j d v ∧ Rep K w H j e u := by
  simp only [RepL] at h
  obtain ⟨v, r, rfl, h1, u, r2, rfl, h2, rfl⟩ := h
  exact ⟨v, u, rfl, h1, h2⟩

/-! the store -/
/-- a new cell -/
theorem Wd.push {m : Sto} (h : Wd K w H j m) {p : Addr} {o : HO} {c : Cell} (hp : H p = none) (hc : CellIs K w (upd H p o) (j.add p) p c) :
    Ext H j (upd H p o) (j.add p) ∧ Wd K w (upd H p o) (j.add p) (m ++ [c]) := by
  have e : Ext H j (upd H p o) (j.add p) := ⟨⟨⟨[p], rfl⟩, fun a u _ q => Same.new hp a u q, fun a ha => by
    rcases ha with ha | ha
    · rcases List.mem_append.mp ha with z | z
      · exact .inl (.inl z)
      · rw [List.mem_singleton.mp z]; exact .inr hp
    · exact .inl (.inr ha), fun a o u q => Same.new hp a _ q⟩, rfl, fun a u _ q => Same.new hp a u q⟩
  refine ⟨e, ?_, ?_, fun n a c' h1 h2 => ?_, fun a ha => ?_⟩
  · show (j.ix ++ [p]).length = _
    rw [List.length_append, List.length_append, h.len]; rfl
  · refine List.nodup_append.mpr ⟨h.nd, by simp, fun a ha b hb => ?_⟩
    rw [List.mem_singleton.mp hb]
    rintro rfl
    obtain ⟨o', q⟩ := h.there ha
    rw [hp] at q; cases q
  · have h1' : (j.ix ++ [p])[n]? = some a := h1
    by_cases hn : n < j.ix.length
    · rw [List.getElem?_append_left hn] at h1'
      rw [List.getElem?_append_left (by rw [← h.len]; exact hn)] at h2
      exact (h.at_ n a c' h1' h2).wx e.toWx fun o q => Same.new hp _ _ q
    · have hn' : n = j.ix.length := by
        have := (List.getElem?_eq_some_iff.mp h1').1
        rw [List.length_append] at this
        simp only [List.length_cons, List.length_nil] at this
        omega
      subst hn'
      rw [List.getElem?_append_right (Nat.le_refl _)] at h1'
      rw [h.len, List.getElem?_append_right (Nat.le_refl _)] at h2
      simp at h1' h2
      subst h1' h2
      exact hc
  · obtain ⟨q1, o', q2⟩ := h.hd a ha
    refine ⟨fun z => ?_, o', Same.new hp _ _ q2⟩
    rcases List.mem_append.mp z with z | z
    · exact q1 z
    · rw [List.mem_singleton.mp z, hp] at q2; cases q2
/-- a cell changed -/
theorem Wd.put {m : Sto} (h : Wd K w H j m) {n : Nat} {a : Addr} {o : HO} {c : Cell} {y : HO} (hy : H a = some y) (hyf : ∀ o u, y ≠ .frz o u) (ha : j.ix[n]? = some a) (hc : CellIs K w (upd H a o) j a c) :
    Ext H j (upd H a o) j ∧ Wd K w (upd H a o) j (m.set n c) := by
  have mem : a ∈ j.ix := List.mem_of_getElem? ha
  have e : Ext H j (upd H a o) j := ⟨⟨⟨[], by simp⟩, fun b u hb q => by rw [upd_ne (fun z => hb (by rw [z]; exact .inl mem))]; exact q, fun b hb => .inl hb, frz_upd hy hyf⟩, rfl,
    fun b u hb q => by rw [upd_ne (fun z => (h.hd b hb).1 (by rw [z]; exact mem))]; exact q⟩
  refine ⟨e, by rw [List.length_set]; exact h.len, h.nd, fun k b c' h1 h2 => ?_, fun b hb => ?_⟩
  · by_cases hk : n = k
    · subst hk
      rw [ha] at h1; cases h1
      have hl : n < m.length := by rw [← h.len]; exact (List.getElem?_eq_some_iff.mp ha).1
      rw [List.getElem?_set_self hl] at h2
      cases h2
      exact hc
    · rw [List.getElem?_set_ne hk] at h2
      have ne : b ≠ a := by
        rintro rfl
        obtain ⟨l1, e1⟩ := List.getElem?_eq_some_iff.mp ha
        obtain ⟨l2, e2⟩ := List.getElem?_eq_some_iff.mp h1
        exact hk ((List.getElem_inj h.nd).mp (e1.trans e2.symm))
      exact (h.at_ k b c' h1 h2).wx e.toWx fun o q => by rw [upd_ne ne]; exact q
  · obtain ⟨q1, o', q2⟩ := h.hd b hb
    exact ⟨q1, o', e.kh b o' hb q2⟩
end

/-! ### wishes -/
/-- how an exception stands -/
def RepX (cA : Nat → Addr) (K : PySem.W.Frag) (w : World) (H : Hp) (j : J) (x : Exc) (cls : Value) (dd : Option Addr) : Prop :=
  cls = .ref (cA x.cls) ∧ (x.fs = [] ∨ ∃ d fs, dd = some d ∧ d ∉ j ∧ H d = some (.xd fs) ∧ fs.map (·.1) = x.fs.map (·.1) ∧ RepL K w H j (x.fs.map (·.2)) (fs.map (·.2)))
section
variable (cA : Nat → Addr) (K : PySem.W.Frag) (w : World)
def Pst {α : Type} (W : Value → Option Addr → Hp → Prop) (H : Hp) (j : J) (k : α → Sto → Hp → J → Prop) : R α → Prop
  | .ok a m => ∀ H' j', Ext H j H' j' → Wd K w H' j' m → k a m H' j'
  | .exc x m => ∀ cls dd H' j', Ext H j H' j' → Wd K w H' j' m → RepX cA K w H' j' x cls dd → W cls dd H'
  | .bad => False
end
section
variable {cA : Nat → Addr} {K : PySem.W.Frag} {w : World} {W : Value → Option Addr → Hp → Prop} {H H' : Hp} {j j' : J} {α β : Type}
theorem Pst.ext {k : α → Sto → Hp → J → Prop} {r : R α} (h : Pst cA K w W H j k r) (e : Ext H j H' j') : Pst cA K w W H' j' k r := by
  cases r with
  | ok a m => exact fun H2 j2 e2 wd => h H2 j2 (e.trans e2) wd
  | exc x m => exact fun c d H2 j2 e2 wd r => h c d H2 j2 (e.trans e2) wd r
  | bad => exact h
theorem Pst.mono {k k' : α → Sto → Hp → J → Prop} {r : R α} (h : Pst cA K w W H j k r) (hk : ∀ a m H' j', Ext H j H' j' → Wd K w H' j' m → k a m H' j' → k' a m H' j') : Pst cA K w W H j k' r := by
  cases r with
  | ok a m => exact fun H2 j2 e2 wd => hk a m H2 j2 e2 wd (h H2 j2 e2 wd)
  | exc x m => exact h
  | bad => exact h
theorem Pst.bnd {k : β → Sto → Hp → J → Prop} {x : M α} {f : α → M β} {m : Sto} (h : Pst cA K w W H j k (x.bnd f m)) : Pst cA K w W H j (fun a m1 H1 j1 => Pst cA K w W H1 j1 k (f a m1)) (x m) := by
  unfold M.bnd at h
  cases e : x m with
  | ok a m1 => rw [e] at h; exact fun H1 j1 e1 wd => Pst.ext h e1
  | exc y m1 => rw [e] at h; exact h
  | bad => rw [e] at h; exact h
theorem Pst.ret {k : α → Sto → Hp → J → Prop} {a : α} {m : Sto} (h : Pst cA K w W H j k (M.ret a m)) (wd : Wd K w H j m) : k a m H j := h H j .refl wd
theorem Pst.ok {k : α → Sto → Hp → J → Prop} {a : α} {m : Sto} (h : Pst cA K w W H j k (.ok a m)) (wd : Wd K w H j m) : k a m H j := h H j .refl wd
/-- what is calm raises nothing -/
theorem Pst.calm {k : α → Sto → Hp → J → Prop} {x : M α} {m : Sto} {W' : Value → Option Addr → Hp → Prop} (h : Pst cA K w W H j k (x.calm m)) : Pst cA K w W' H j k (x m) := by
  unfold M.calm at h
  cases e : x m with
  | ok a m1 => rw [e] at h; exact h
  | exc y m1 => rw [e] at h; exact h.elim
  | bad => rw [e] at h; exact h.elim
end
end Mp
end
section -- MpC
set_option Elab.async false
set_option linter.all false
set_option maxRecDepth 100000
set_option maxHeartbeats 4000000
/-! Mp, part C: the operations on data are the library's. -/
namespace Mp
open PySem L2 PyProof.Rows

/-- what every context here has -/
structure Gx (X : Cx) : Prop where
  un : X.A.units + 200 < cLine
  gd : X.A.guards = some []
  calm : X.calm = true
  sm : (X.K.lookup sysModules).isSome = true

section
variable {X : Cx} {pins : List (Addr × Obj)} {σ : L2.St} {H : Hp} {s : Shared} {j : J}
theorem nosys (G : Gx X) (I : Inv X pins σ H s) {a : Addr} {u : HO} (r : Rd H a u) : a ≠ sysModules := by
  rintro rfl
  obtain ⟨o, ho⟩ := Option.isSome_iff_exists.mp G.sm
  have z := (I.bs sysModules o (I.ok.mod.kin _ _ ho)).2
  rcases r with q | ⟨o', q⟩ <;> rw [z] at q <;> cases q
theorem rd_same {u : HO} {a : Addr} {H' : Hp} (e : Same H H') (r : Rd H a u) : Rd H' a u := by
  rcases r with q | ⟨o, q⟩
  · exact .inl (e _ _ q)
  · exact .inr ⟨o, e _ _ q⟩
theorem tup_sq {K : PySem.W.Frag} {a : Addr} {vs : List V} (h : (a ∉ j ∧ Rd H a (.tup vs)) ∨ KTup K a vs) : SqT K H a vs := by
  rcases h with ⟨_, q⟩ | q
  · exact .inl q
  · exact .inr q

/-! ### data as the library reads them -/
theorem dict_key {k : Key} {u : Value} {h : Heap} (e : keyIs k u = true) : Reads h u (keyPy k) [] := by
  rcases keyIs_shape e with ⟨i, t, rfl, rfl⟩ | ⟨x, t, rfl, rfl⟩
  · exact .int i t
  · exact .str x t
theorem pairs_reads {P : Program} {w : World} {h : Heap} : ∀ {es : List DictEntry} {ks : List Key} {us : List Value} {ps : List PyData} {as : List Addr}, Pairs (mixKind P w) es (ks.zip us) → ks.length = us.length →
    ReadsAll h us ps as → ks.length = ps.length → ReadsAll h (es.map (·.key)) ((zipKv ks ps).map (·.1)) [] ∧ ReadsAll h (es.map (·.val)) ((zipKv ks ps).map (·.2)) as
  | [], [], [], ps, as, p, l, r, l2 => by
    cases r
    exact ⟨.nil, .nil⟩
  | [], k :: ks, [], ps, as, p, l, r, l2 => nomatch l
  | [], [], u :: us, ps, as, p, l, r, l2 => nomatch l
  | [], k :: ks, u :: us, ps, as, p, l, r, l2 => nomatch p
  | e :: es, [], us, ps, as, p, l, r, l2 => by
    cases us <;> exact nomatch p
  | e :: es, k :: ks, [], ps, as, p, l, r, l2 => nomatch p
  | e :: es, k :: ks, u :: us, [], as, p, l, r, l2 => nomatch l2
  | e :: es, k :: ks, u :: us, d :: ps, as, p, l, r, l2 => by
    cases r with
    | cons r1 r2 =>
      cases p with
      | cons p1 p2 p3 =>
        obtain ⟨h1, h2⟩ := pairs_reads p3 (by simpa using l) r2 (by simpa using l2)
        have q1 : keyIs k e.key = true := p1
        have q2 : e.val = u := p2
        refine ⟨ReadsAll.cons (as := []) (dict_key q1) h1, ?_⟩
        refine ReadsAll.cons ?_ h2
        show Reads h e.val d _
        rw [q2]; exact r1
theorem kv_zip {ks : List Key} {vs : List V} {us : List (Key × Value)} (h : KV (ks.zip vs) us) (l : ks.length = vs.length) : ∃ ws, us = ks.zip ws ∧ ks.length = ws.length ∧ Vals vs ws := by
  induction ks generalizing vs us with
  | nil =>
    cases vs with
    | nil => cases h; exact ⟨[], rfl, rfl, .nil⟩
    | cons v vs => cases l
  | cons k ks ih =>
    cases vs with
    | nil => cases l
    | cons v vs =>
      cases h with
      | @cons _ b _ _ h1 h2 =>
        obtain ⟨ws, rfl, l2, r⟩ := ih h2 (by simpa using l)
        obtain ⟨k', u⟩ := b
        obtain ⟨e1, e2⟩ := h1
        have e1 : k = k' := e1
        subst e1
        exact ⟨u :: ws, rfl, by simpa using l2, .cons e2 r⟩
theorem toPyL_len : ∀ {ds : List D} {ps : List PyData}, toPyL ds = some ps → ds.length = ps.length
  | [], ps, h => by simp only [toPyL] at h; cases h; rfl
  | d :: ds, ps, h => by
    simp only [toPyL] at h
    split at h
    · rename_i y ys h1 h2
      cases h
      rw [List.length_cons, List.length_cons, toPyL_len h2]
    · cases h
mutual
theorem rep_reads (G : Gx X) (I : Inv X pins σ H s) : ∀ (d : D) (v : V) (u : Value) (p : PyData), Rep X.K X.w H j d v → RelV v u → toPy d = some p → ∃ as, Reads s.heap u p as ∧ sysModules ∉ as
  | .non, v, u, p, h, r, e => by
    simp only [Rep] at h; subst h; cases r; simp only [toPy] at e; cases e
    exact ⟨[], .none, by simp⟩
  | .bl b, v, u, p, h, r, e => by
    simp only [Rep] at h; subst h; cases r; simp only [toPy] at e; cases e
    exact ⟨[], .bool b, by simp⟩
  | .int i, v, u, p, h, r, e => by
    simp only [Rep] at h; subst h; obtain ⟨t, rfl⟩ := r; simp only [toPy] at e; cases e
    exact ⟨[], .int i t, by simp⟩
  | .str x, v, u, p, h, r, e => by
    simp only [Rep] at h; subst h; obtain ⟨t, rfl⟩ := r; simp only [toPy] at e; cases e
    exact ⟨[], .str x t, by simp⟩
  | .tup xs, v, u, p, h, r, e => by
    simp only [Rep] at h
    obtain ⟨a, vs, rfl, q, rl⟩ := h
    cases r
    simp only [toPy, Option.map_eq_some_iff] at e
    obtain ⟨ps, e1, rfl⟩ := e
    obtain ⟨its, rv, ⟨o, ho, hc, n, hd⟩, _⟩ := I.tuple (tup_sq q)
    obtain ⟨as, r1, r2⟩ := rep_readsL G I xs vs its ps rl rv e1
    exact ⟨as, Reads.tuple ho hc hd r1, r2⟩
  | .lst xs, v, u, p, h, r, e => by
    simp only [Rep] at h
    obtain ⟨a, vs, rfl, q1, q2, rl⟩ := h
    cases r
    simp only [toPy, Option.map_eq_some_iff] at e
    obtain ⟨ps, e1, rfl⟩ := e
    obtain ⟨its, rv, ⟨o, n, ho, hc, _, hd⟩, _⟩ := I.list (.inl q2)
    obtain ⟨as, r1, r2⟩ := rep_readsL G I xs vs its ps rl rv e1
    exact ⟨_, Reads.list ho hc hd r1, by simp only [List.mem_cons, not_or]; exact ⟨Ne.symm (nosys G I q2), r2⟩⟩
  | .dct ks ds, v, u, p, h, r, e => by
    simp only [Rep] at h
    obtain ⟨a, vs, rfl, q1, q2, l, rl⟩ := h
    cases r
    simp only [toPy] at e
    split at e
    · rename_i hl
      simp only [Option.map_eq_some_iff] at e
      obtain ⟨ps, e1, rfl⟩ := e
      obtain ⟨hz, hS, us, kv, o, es, ep, ho, hex, hd, hk, hp, hn⟩ := dk_rd I.hok (.inl q2)
      obtain ⟨ws, rfl, l2, rv⟩ := kv_zip kv l
      obtain ⟨as, r1, r2⟩ := rep_readsL G I ds vs ws ps rl rv e1
      obtain ⟨r3, r4⟩ := pairs_reads hp l2 r1 (hl.trans (toPyL_len e1))
      refine ⟨_, Reads.dict ho hex.1 hd r3 r4, ?_⟩
      simp only [List.mem_append, List.mem_cons, not_or]
      exact ⟨⟨Ne.symm (nosys G I (.inl q2)), by simp⟩, r2⟩
    · cases e
  | .wdc ks ds, v, u, p, h, r, e => by simp only [toPy] at e; cases e
  | .ref n, v, u, p, h, r, e => by simp only [toPy] at e; cases e
theorem rep_readsL (G : Gx X) (I : Inv X pins σ H s) : ∀ (ds : List D) (vs : List V) (us : List Value) (ps : List PyData), RepL X.K X.w H j ds vs → Vals vs us → toPyL ds = some ps → ∃ as, ReadsAll s.heap us ps as ∧ sysModules ∉ as
  | [], vs, us, ps, h, r, e => by
    simp only [RepL] at h; subst h; cases r; simp only [toPyL] at e; cases e
    exact ⟨[], .nil, by simp⟩
  | d :: ds, vs, us, ps, h, r, e => by
    simp only [RepL] at h
    obtain ⟨v, vr, rfl, h1, h2⟩ := h
    cases r with
    | cons r1 r2 =>
      simp only [toPyL] at e
      split at e
      · rename_i y ys e1 e2
        cases e
        obtain ⟨as, q1, q2⟩ := rep_reads G I d v _ y h1 r1 e1
        obtain ⟨bs, q3, q4⟩ := rep_readsL G I ds vr _ ys h2 r2 e2
        exact ⟨_, .cons q1 q3, by simp only [List.mem_append, not_or]; exact ⟨q2, q4⟩⟩
      · cases e
end

/-! ### two-place operations -/
def rD2 (K : PySem.W.Frag) (w : World) (f : Sto → D → D → Option D) : R2 := fun v u H Q => ∃ x y d j m, Rep K w H j x v ∧ Rep K w H j y u ∧ Wd K w H j m ∧ f m x y = some d ∧ ∀ z H', Same H H' → Rep K w H' j d z → Q z H'

theorem same_refl : Same H H := fun _ _ h => h
/-- a list's items -/
theorem lst_of {m : Sto} {d : D} {v : V} {xs : List D} (wd : Wd X.K X.w H j m) (h : Rep X.K X.w H j d v) (e : lstOf m d = some xs) : ∃ a vs, v = .ref a ∧ Rd H a (.lst vs) ∧ RepL X.K X.w H j xs vs := by
  unfold lstOf at e
  split at e
  · cases e
    simp only [Rep] at h
    obtain ⟨a, vs, rfl, q1, q2, rl⟩ := h
    exact ⟨a, vs, rfl, q2, rl⟩
  · simp only [Rep] at h
    obtain ⟨a, rfl, q⟩ := h
    split at e
    · rename_i n xs' hm
      cases e
      obtain ⟨vs, q1, q2⟩ := wd.at_ _ _ _ q hm
      exact ⟨a, vs, rfl, .inl q1, q2⟩
    · cases e
  · cases e
/-- the items of a list or a tuple -/
theorem items_of {m : Sto} {d : D} {v : V} {xs : List D} (wd : Wd X.K X.w H j m) (h : Rep X.K X.w H j d v) (e : items m d = some xs) : ∃ a vs, v = .ref a ∧ (SqL X.K H a vs ∨ SqT X.K H a vs) ∧ RepL X.K X.w H j xs vs := by
  unfold items at e
  split at e
  · cases e
    simp only [Rep] at h
    obtain ⟨a, vs, rfl, q, rl⟩ := h
    exact ⟨a, vs, rfl, .inr (tup_sq q), rl⟩
  · cases e
    simp only [Rep] at h
    obtain ⟨a, vs, rfl, q1, q2, rl⟩ := h
    exact ⟨a, vs, rfl, .inl (.inl q2), rl⟩
  · simp only [Rep] at h
    obtain ⟨a, rfl, q⟩ := h
    split at e
    · rename_i n xs' hm
      cases e
      obtain ⟨vs, q1, q2⟩ := wd.at_ _ _ _ q hm
      exact ⟨a, vs, rfl, .inl (.inl (.inl q1)), q2⟩
    · cases e
  · cases e
/-- a new tuple, list -/
theorem rep_tup {K : PySem.W.Frag} {w : World} {p : Addr} {m : Sto} {xs : List D} {vs : List V} (wd : Wd K w H j m) (hp : H p = none) (rl : RepL K w H j xs vs) : Rep K w (upd H p (.tup vs)) j (.tup xs) (.ref p) := by
  simp only [Rep]
  refine ⟨p, vs, rfl, .inl ⟨fun hm => ?_, .inl upd_same⟩, RepL.ext (.new1 hp) _ _ rl⟩
  obtain ⟨o, q⟩ := wd.there' hm
  rw [hp] at q; cases q
theorem rep_lst {K : PySem.W.Frag} {w : World} {p : Addr} {m : Sto} {xs : List D} {vs : List V} (wd : Wd K w H j m) (hp : H p = none) (rl : RepL K w H j xs vs) : Rep K w (upd H p (.lst vs)) j (.lst xs) (.ref p) := by
  simp only [Rep]
  refine ⟨p, vs, rfl, fun hm => ?_, .inl upd_same, RepL.ext (.new1 hp) _ _ rl⟩
  obtain ⟨o, q⟩ := wd.there' hm
  rw [hp] at q; cases q
theorem mulOk_C {i k : Int} (h : mulOk i k = true) : CMul i k := by
  unfold mulOk at h
  simp only [Bool.or_eq_true, Bool.and_eq_true, decide_eq_true_eq] at h
  exact h
/-- + of lists, however they stand -/
theorem op_catR : OpR X (binaryOp .Add) (fun x y H Q => ∃ l b xs zs, x = .ref l ∧ y = .ref b ∧ Rd H l (.lst xs) ∧ Rd H b (.lst zs) ∧ xs.length + zs.length ≤ sizeLine ∧ ∀ p, H p = none → Q (.ref p) (upd H p (.lst (xs ++ zs)))) := by
  intro pins s σ H x y v u Q I rx ry h
  obtain ⟨l, b, xs, zs, rfl, rfl, hl, hb, hz, q⟩ := h
  cases rx
  cases ry
  obtain ⟨_, its, n, ri, ho⟩ := hl.ok I.hok
  obtain ⟨_, its2, n2, ri2, ho2⟩ := hb.ok I.hok
  have l1 := ri.length
  have l2 := ri2.length
  refine PySem.P.add_list ho ho2 ?_ (by rw [List.size_toArray, List.size_toArray]; omega)
  rw [List.append_toArray]
  exact ⟨.ref _, _, I.lnew (t' := s.toks) (ri.append ri2) (by rw [List.length_append]; omega), rfl, q _ I.fresh⟩
theorem op_powB : OpR X (binaryOp .Pow) (rI (fun i j => 0 ≤ j ∧ ((Builtin.Int.intBits i : Nat) : Int) * j ≤ 2 ^ 27) fun i j => .int (i ^ j.toNat)) := opI fun _ _ _ _ _ _ _ hc q => PyProof.Rows.pow_int hc.1 hc.2 q
theorem bin_ok (G : Gx X) (o : Operator) : OpR X (binaryOp o) (rD2 X.K X.w fun m x y => binD m o x y) := by
  intro pins s σ H vx vy v u Q I rx ry h
  obtain ⟨x, y, d, j, m, h1, h2, wd, e', q⟩ := h
  have e : binD m o x y = some d := e'
  clear e'
  unfold binD at e
  split at e
  · cases e; simp only [Rep] at h1 h2; subst h1 h2
    exact op_add pins s σ H _ _ v u Q I rx ry ⟨_, _, rfl, rfl, q _ H same_refl (by simp only [Rep])⟩
  · simp only [Rep] at h1 h2; subst h1 h2
    split at e
    · cases e
      exact op_add_str pins s σ H _ _ v u Q I rx ry ⟨_, _, rfl, rfl, ‹_›, q _ H same_refl (by simp only [Rep])⟩
    · cases e
  · rename_i xs ys
    split at e
    · rename_i hz
      cases e
      simp only [Rep] at h1 h2
      obtain ⟨a, vs, rfl, qa, ra⟩ := h1
      obtain ⟨b, us, rfl, qb, rb⟩ := h2
      refine op_catA pins s σ H _ _ v u Q I rx ry ⟨a, b, vs, us, rfl, rfl, tup_sq qa, tup_sq qb, by rw [← ra.length, ← rb.length]; exact hz, fun z => ?_, fun z z2 => ?_, fun z z2 p hp => ?_⟩
      · refine q _ H same_refl ?_
        subst z
        have e1 : xs = [] := List.eq_nil_of_length_eq_zero (by rw [ra.length]; rfl)
        subst e1
        simp only [Rep]
        exact ⟨b, us, rfl, qb, rb⟩
      · refine q _ H same_refl ?_
        subst z2
        have e1 : ys = [] := List.eq_nil_of_length_eq_zero (by rw [rb.length]; rfl)
        subst e1
        rw [List.append_nil]
        simp only [Rep]
        exact ⟨a, vs, rfl, qa, ra⟩
      · exact q _ _ (Same.new hp) (rep_tup wd hp (ra.append rb))
    · cases e
  · split at e
    · rename_i xs ys e1 e2
      split at e
      · rename_i hz
        cases e
        obtain ⟨a, vs, rfl, qa, ra⟩ := lst_of wd h1 e1
        obtain ⟨b, us, rfl, qb, rb⟩ := lst_of wd h2 e2
        exact op_catR pins s σ H _ _ v u Q I rx ry ⟨a, b, vs, us, rfl, rfl, qa, qb, by rw [← ra.length, ← rb.length]; exact hz, fun p hp => q _ _ (Same.new hp) (rep_lst wd hp (ra.append rb))⟩
      · cases e
    · cases e
  · cases e; simp only [Rep] at h1 h2; subst h1 h2
    exact op_sub pins s σ H _ _ v u Q I rx ry ⟨_, _, rfl, rfl, q _ H same_refl (by simp only [Rep])⟩
  · simp only [Rep] at h1 h2; subst h1 h2
    split at e
    · cases e
      exact op_mul pins s σ H _ _ v u Q I rx ry ⟨_, _, rfl, rfl, mulOk_C ‹_›, q _ H same_refl (by simp only [Rep])⟩
    · cases e
  · simp only [Rep] at h1 h2; subst h1 h2
    split at e
    · cases e
      exact op_mod pins s σ H _ _ v u Q I rx ry ⟨_, _, rfl, rfl, ‹_›, q _ H same_refl (by simp only [Rep])⟩
    · cases e
  · simp only [Rep] at h1 h2; subst h1 h2
    split at e
    · cases e
      exact op_fdiv pins s σ H _ _ v u Q I rx ry ⟨_, _, rfl, rfl, ‹_›, q _ H same_refl (by simp only [Rep])⟩
    · cases e
  · simp only [Rep] at h1 h2; subst h1 h2
    split at e
    · cases e
      exact op_powB pins s σ H _ _ v u Q I rx ry ⟨_, _, rfl, rfl, ‹_›, q _ H same_refl (by simp only [Rep])⟩
    · cases e
  · cases e

/-! ### == -/
theorem eqG_ok (G : Gx X) (I : Inv X pins σ H s) {x y : D} {vx vy : V} {v u : Value} {b : Bool} (h1 : Rep X.K X.w H j x vx) (h2 : Rep X.K X.w H j y vy) (rx : RelV vx v) (ry : RelV vy u) (e : eqG x y = some b) :
    SeqAt.RcAt X.A s v u b ∧ ∀ A : Around, A.units ≤ X.A.units + 2 → SeqAt.EqAt A s v u b := by
  unfold eqG at e
  split at e
  · rename_i p q e1 e2
    split at e
    · rename_i hc
      cases e
      simp only [Bool.and_eq_true, decide_eq_true_eq] at hc
      obtain ⟨as, r1, _⟩ := rep_reads G I x vx v p h1 rx e1
      obtain ⟨bs, r2, _⟩ := rep_reads G I y vy u q h2 ry e2
      have hu := G.un
      exact ⟨SeqAt.rcAt_reads r1 r2 hc.1.1 hc.1.2 (by omega), fun A hA => SeqAt.eqAt_reads p q A s v u as bs r1 r2 hc.1.1 hc.1.2 (by omega)⟩
    · cases e
  · cases e
theorem eqS_inv {x y : D} {b : Bool} (e : eqS x y = some b) : ∃ x1 y1, x = .str x1 ∧ y = .str y1 ∧ b = (x1 == y1) := by
  unfold eqS at e
  split at e
  · cases e; exact ⟨_, _, rfl, rfl, rfl⟩
  · cases e
theorem eqD_rc (G : Gx X) (I : Inv X pins σ H s) {x y : D} {vx vy : V} {v u : Value} {b : Bool} (h1 : Rep X.K X.w H j x vx) (h2 : Rep X.K X.w H j y vy) (rx : RelV vx v) (ry : RelV vy u) (e : eqD x y = some b) :
    SeqAt.RcAt X.A s v u b := by
  have hu := G.un
  unfold eqD at e
  split at e
  · rename_i ys
    cases e
    simp only [Rep] at h1 h2
    obtain ⟨a, vs, rfl, qa, ra⟩ := h1
    obtain ⟨b, us, rfl, qb, rb⟩ := h2
    cases rx; cases ry
    obtain ⟨its, rv, p1, _⟩ := I.tuple (tup_sq qa)
    obtain ⟨its2, rv2, p2, _⟩ := I.tuple (tup_sq qb)
    have l1 := ra.length
    have l2 := rv.length
    have l3 := rb.length
    have l4 := rv2.length
    have z : its = [] := List.eq_nil_of_length_eq_zero (by rw [← l2, ← l1]; rfl)
    subst z
    have := SeqAt.RcAt.tuples (A := X.A) (e := fun _ => true) p1 p2 (by omega) (fun j h1 h2 => absurd h1 (by simp))
    have e2 : (((List.range (min (#[] : Array Value).size its2.toArray.size)).all (fun _ => true) && (#[] : Array Value).size == its2.toArray.size) : Bool) = ys.isEmpty := by
      cases ys with
      | nil =>
        have : its2 = [] := List.eq_nil_of_length_eq_zero (by rw [← l4, ← l3]; rfl)
        subst this; rfl
      | cons y ys =>
        have : its2 ≠ [] := fun z => by subst z; rw [← l3] at l4; simp at l4
        cases its2 with
        | nil => exact absurd rfl this
        | cons _ _ => simp
    rw [← e2]
    exact this
  · rename_i xs hn
    cases e
    simp only [Rep] at h1 h2
    obtain ⟨a, vs, rfl, qa, ra⟩ := h1
    obtain ⟨b, us, rfl, qb, rb⟩ := h2
    cases rx; cases ry
    obtain ⟨its, rv, p1, _⟩ := I.tuple (tup_sq qa)
    obtain ⟨its2, rv2, p2, _⟩ := I.tuple (tup_sq qb)
    have l1 := ra.length
    have l2 := rv.length
    have l3 := rb.length
    have l4 := rv2.length
    have z : its2 = [] := List.eq_nil_of_length_eq_zero (by rw [← l4, ← l3]; rfl)
    subst z
    have := SeqAt.RcAt.tuples (A := X.A) (e := fun _ => true) p1 p2 (by omega) (fun j h1 h2 => absurd h2 (by simp))
    have e2 : (((List.range (min its.toArray.size (#[] : Array Value).size)).all (fun _ => true) && its.toArray.size == (#[] : Array Value).size) : Bool) = xs.isEmpty := by
      cases xs with
      | nil => exact (hn rfl).elim
      | cons y ys =>
        have : its ≠ [] := fun z => by subst z; rw [← l1] at l2; simp at l2
        cases its with
        | nil => exact absurd rfl this
        | cons _ _ => simp
    rw [← e2]
    exact this
  · rename_i xs ys
    split at e
    · rename_i hne
      cases e
      simp only [Rep] at h1 h2
      obtain ⟨a, vs, rfl, _, qa, ra⟩ := h1
      obtain ⟨b, us, rfl, _, qb, rb⟩ := h2
      cases rx; cases ry
      obtain ⟨its, rv, p1, _⟩ := I.list (.inl qa)
      obtain ⟨its2, rv2, p2, _⟩ := I.list (.inl qb)
      have l1 := ra.length
      have l2 := rv.length
      have l3 := rb.length
      have l4 := rv2.length
      exact SeqAt.RcAt.lists_lengths p1.isList p2.isList (by simp only [List.size_toArray, bne_iff_ne, ne_eq]; omega) (by omega)
    · exact (eqG_ok G I h1 h2 rx ry e).1
  · cases hg : eqG x y with
    | some c =>
      rw [hg] at e
      cases e
      exact (eqG_ok G I h1 h2 rx ry hg).1
    | none =>
      rw [hg, Option.none_or] at e
      obtain ⟨x1, y1, rfl, rfl, rfl⟩ := eqS_inv e
      simp only [Rep] at h1 h2
      subst h1 h2
      obtain ⟨t, rfl⟩ := rx
      obtain ⟨t', rfl⟩ := ry
      exact SeqAt.RcAt.str_str x1 t y1 t'

/-- the data that the library reads are told by ==: as a function of the value -/
noncomputable def eqF (s : Shared) (q : PyData) (u : Value) : Bool := @decide (∃ p as, Reads s.heap u p as ∧ p.canLay0 = true ∧ PyData.eqv p q = true) (Classical.propDecidable _)
theorem inL_ok (G : Gx X) (I : Inv X pins σ H s) {x : D} {vx : V} {v : Value} (h1 : Rep X.K X.w H j x vx) (rx : RelV vx v) {q : PyData} (eq : toPy x = some q) : ∀ {ys : List D} {vs : List V} {us : List Value} {b : Bool}, RepL X.K X.w H j ys vs → Vals vs us → inL x ys = some b →
    (∀ u ∈ us, SeqAt.EqAt X.A.in1 s u v (eqF s q u)) ∧ us.any (eqF s q) = b
  | [], vs, us, b, rl, rv, e => by
    simp only [RepL] at rl; subst rl; cases rv
    simp only [inL] at e; cases e
    exact ⟨fun u hu => absurd hu (by simp), rfl⟩
  | y :: ys, vs, us, b, rl, rv, e => by
    simp only [RepL] at rl
    obtain ⟨vy, r, rfl, hy, hr⟩ := rl
    cases rv with
    | @cons _ u _ us' ry rr =>
      simp only [inL] at e
      split at e
      · rename_i a b' e1 e2
        cases e
        obtain ⟨k1, k2⟩ := inL_ok G I h1 rx eq hr rr e2
        have k3 := (eqG_ok G I hy h1 ry rx e1).2 X.A.in1 (by show X.A.units + 1 ≤ _; omega)
        have k4 : eqF s q u = a := by
          unfold eqG at e1
          rw [eq] at e1
          split at e1
          · rename_i p q' ep eq'
            cases eq'
            split at e1
            · rename_i hc
              cases e1
              simp only [Bool.and_eq_true, decide_eq_true_eq] at hc
              obtain ⟨as, r1, _⟩ := rep_reads G I y vy u p hy ry ep
              unfold eqF
              cases z : PyData.eqv p q with
              | true => exact @decide_eq_true _ (Classical.propDecidable _) ⟨p, as, r1, hc.1.1, z⟩
              | false =>
                refine @decide_eq_false _ (Classical.propDecidable _) ?_
                rintro ⟨p', as', r2, c2, z2⟩
                have := SeqAt.Reads.unique p p' u as as' hc.1.1 r1 r2
                subst this
                rw [z] at z2; cases z2
            · cases e1
          · cases e1
        refine ⟨fun w hw => ?_, by rw [List.any_cons, k4, k2]⟩
        rcases List.mem_cons.mp hw with rfl | hw
        · rw [k4]; exact k3
        · exact k1 w hw
      · cases e
theorem inL_py {x : D} : ∀ {ys : List D} {b : Bool}, ys ≠ [] → inL x ys = some b → ∃ q, toPy x = some q
  | [], b, h, e => absurd rfl h
  | y :: ys, b, h, e => by
    simp only [inL] at e
    split at e
    · rename_i a b' e1 e2
      unfold eqG at e1
      split at e1
      · exact ⟨_, ‹_›⟩
      · cases e1
    · cases e
theorem fin_b {Q : VK} {b : Bool} (I : Inv X pins σ H s) (q : ∀ z H', Same H H' → Rep X.K X.w H' j (.bl b) z → Q z H') : EP X pins σ Q (.bool b) s := ⟨.bl b, H, I, rfl, q _ H same_refl (by simp only [Rep])⟩
theorem isNon_ok {x : D} {v : V} (h : Rep X.K X.w H j x v) : isNon x = decide (v = .non) := by
  cases x <;> simp only [Rep] at h <;> first
    | (subst h; simp [isNon])
    | (obtain ⟨a, vs, rfl, _⟩ := h; simp [isNon])
    | (obtain ⟨a, rfl, _⟩ := h; simp [isNon])
theorem dKey_rep {x : D} {k : Key} {v : V} (e : dKey x = some k) (h : Rep X.K X.w H j x v) : v = kV k := by
  unfold dKey at e
  split at e <;> first
    | (cases e; simp only [Rep] at h; subst h; rfl)
    | cases e
theorem valV_zip {ks : List Key} {vs : List V} {k : Key} : ks.length = vs.length → valV (ks.zip vs) k = ((ks.zip vs).find? fun kv => decide (kv.1 = k)).map (·.2) := fun _ => rfl
theorem valV_zip_some {k : Key} : ∀ {ks : List Key} {vs : List V}, ks.length = vs.length → (valV (ks.zip vs) k).isSome = hasK k ks
  | [], [], _ => rfl
  | q :: ks, v :: vs, h => by
    have ih := valV_zip_some (k := k) (ks := ks) (vs := vs) (by simpa using h)
    rw [List.zip_cons_cons]
    by_cases e : q = k
    · rw [valV_pos (p := (q, v)) e]; unfold hasK; rw [decide_eq_true e]; rfl
    · rw [valV_neg (p := (q, v)) e, ih]; unfold hasK; rw [decide_eq_false e]; cases ks <;> rfl
theorem hasK_yes {k : Key} : ∀ {ks : List Key}, k ∈ ks → hasK k ks = true
  | q :: ks, h => by
    unfold hasK
    rcases List.mem_cons.mp h with z | z
    · rw [decide_eq_true z.symm]; rfl
    · rw [hasK_yes z, Bool.or_true]
theorem hasK_no {k : Key} : ∀ {ks : List Key}, k ∉ ks → hasK k ks = false
  | [], h => rfl
  | q :: ks, h => by
    unfold hasK
    rw [decide_eq_false (fun (z : q = k) => h (by rw [z]; exact List.mem_cons_self)), hasK_no fun z => h (List.mem_cons_of_mem _ z)]
    rfl
theorem in_ok (G : Gx X) (neg : Bool) {m : Sto} {x y : D} {vx vy : V} {v u : Value} {b : Bool} {Q : VK} (I : Inv X pins σ H s) (wd : Wd X.K X.w H j m) (h1 : Rep X.K X.w H j x vx) (h2 : Rep X.K X.w H j y vy) (rx : RelV vx v) (ry : RelV vy u) (e : inD m x y = some b)
    (q : Q (.bl (if neg then !b else b)) H) : wpAny (model X.prog X.w) X.A (compareOp (if neg then .NotIn else .In) v u) (EP X pins σ Q) X.xe s := by
  unfold inD at e
  split at e
  · cases e; simp only [Rep] at h1 h2; subst h1 h2
    obtain ⟨t, rfl⟩ := rx
    obtain ⟨t', rfl⟩ := ry
    cases neg with
    | false => exact in_str (fin_bl I q rfl)
    | true => exact notIn_str (fin_bl I q rfl)
  · obtain ⟨k, e1, rfl⟩ := Option.map_eq_some_iff.mp e
    simp only [Rep] at h2
    obtain ⟨a, vs, rfl, _, qa, hl, _⟩ := h2
    cases (show u = Value.ref a from ry)
    have hu := G.un
    have hx := dKey_rep e1 h1
    subst hx
    have g : DGet H a (kV k) (valV (List.zip _ vs) k) := .inl ⟨_, k, .inl qa, rfl, rfl⟩
    rw [← valV_zip_some hl] at q
    cases neg with
    | false => exact d_in (by omega) I g rx fun s' I' => fin_bl I' q rfl
    | true => exact d_notIn (by omega) I g rx fun s' I' => fin_bl I' q rfl
  · rename_i x' ks _
    cases e
    simp only [Rep] at h1 h2
    subst h1
    obtain ⟨a, vs, rfl, ⟨⟨es, n, kd⟩, k1, k2, k3, k4, k5⟩, _⟩ := h2
    have e2 : ∃ r, PySem.W.nsIn X.K a x' = some r ∧ r.isSome = hasK (Sum.inr x') ks := by
      by_cases hm : (Sum.inr x' : Key) ∈ ks
      · obtain ⟨i, hi, ei⟩ := List.getElem_of_mem hm
        obtain ⟨u, e1, _⟩ := k1 i x' (vs[i]'(by rw [k5]; exact hi)) (by rw [List.getElem?_eq_getElem hi, ei]) (List.getElem?_eq_getElem _)
        exact ⟨_, e1, by rw [hasK_yes hm]; rfl⟩
      · exact ⟨_, k2 x' hm, by rw [hasK_no hm]; rfl⟩
    obtain ⟨r, r1, r2⟩ := e2
    rw [← r2] at q
    cases neg with
    | false => exact op_in_kd kd pins s σ H _ _ _ _ Q I rx ry ⟨x', r, rfl, rfl, r1, q⟩
    | true => exact op_notIn_kd kd pins s σ H _ _ _ _ Q I rx ry ⟨x', r, rfl, rfl, r1, q⟩
  · obtain ⟨xs, e1, e2⟩ := Option.bind_eq_some_iff.mp e
    obtain ⟨a, vs, rfl, sq, rl⟩ := items_of wd h2 e1
    cases ry
    have key : ∀ us : List Value, Vals vs us → ∃ f : Value → Bool, (∀ z ∈ us, SeqAt.EqAt X.A.in1 s z v (f z)) ∧ us.any f = b := fun us rv => by
      cases xs with
      | nil =>
        simp only [RepL] at rl; subst rl; cases rv
        simp only [inL] at e2; cases e2
        exact ⟨fun _ => true, fun z hz => absurd hz (by simp), rfl⟩
      | cons y ys =>
        obtain ⟨p, ep⟩ := inL_py (by simp) e2
        exact ⟨eqF s p, inL_ok G I h1 rx ep rl rv e2⟩
    rcases sq with sq | sq
    · obtain ⟨us, rv, pl, _⟩ := I.list sq
      obtain ⟨f, f1, f2⟩ := key us rv
      have f3 : us.toArray.any f = b := by rw [List.any_toArray]; exact f2
      cases neg with
      | false => exact SeqAt.in_listAt f pl.isList (fun z hz => f1 z (by simpa using hz)) (by rw [f3]; exact fin_bl I q rfl)
      | true => exact SeqAt.notIn_listAt f pl.isList (fun z hz => f1 z (by simpa using hz)) (by rw [f3]; exact fin_bl I q rfl)
    · obtain ⟨us, rv, pl, _⟩ := I.tuple sq
      obtain ⟨f, f1, f2⟩ := key us rv
      have f3 : us.toArray.any f = b := by rw [List.any_toArray]; exact f2
      cases neg with
      | false => exact SeqAt.in_tupleAt f pl (fun z hz => f1 z (by simpa using hz)) (by rw [f3]; exact fin_bl I q rfl)
      | true => exact SeqAt.notIn_tupleAt f pl (fun z hz => f1 z (by simpa using hz)) (by rw [f3]; exact fin_bl I q rfl)
theorem cmp_ok (G : Gx X) (o : CmpOp) : OpR X (compareOp o) (rD2 X.K X.w fun m x y => (cmpD m o x y).map .bl) := by
  intro pins s σ H vx vy v u Q I rx ry h
  obtain ⟨x, y, d, j, m, h1, h2, wd, e', q⟩ := h
  obtain ⟨b, e, rfl⟩ := Option.map_eq_some_iff.mp (show (cmpD m o x y).map .bl = some d from e')
  clear e'
  unfold cmpD at e
  split at e
  · exact eqD_rc G I h1 h2 rx ry e _ _ _ _ (fin_b I q)
  · obtain ⟨b', e0', rfl⟩ := Option.map_eq_some_iff.mp e
    clear e
    cases hg : eqG x y with
    | none =>
      rw [hg, Option.none_or] at e0'
      obtain ⟨x1, y1, rfl, rfl, rfl⟩ := eqS_inv e0'
      simp only [Rep] at h1 h2
      subst h1 h2
      refine op_ne pins s σ H _ _ v u Q I rx ry ⟨rfl, ?_⟩
      refine q _ H same_refl ?_
      simp only [Rep]
      congr 1
      rw [Bool.eq_iff_iff]
      simp
    | some c =>
    rw [hg] at e0'
    have hcb : c = b' := Option.some.inj e0'
    subst hcb
    have e0 := hg
    clear e0' hg
    unfold eqG at e0
    split at e0
    · rename_i p p' e1 e2
      split at e0
      · rename_i hc
        have hb := (Option.some.inj e0).symm
        subst hb
        simp only [Bool.and_eq_true, decide_eq_true_eq] at hc
        obtain ⟨as, r1, _⟩ := rep_reads G I x vx v p h1 rx e1
        obtain ⟨bs, r2, _⟩ := rep_reads G I y vy u p' h2 ry e2
        have hu := G.un
        exact SeqAt.rcNeAt_reads r1 r2 hc.1.1 hc.1.2 (by omega) _ _ _ _ (fin_b I q)
      · cases e0
    · cases e0
  · exact in_ok G false I wd h1 h2 rx ry e (q _ H same_refl (by simp only [Rep]; rfl))
  · obtain ⟨b', e0, rfl⟩ := Option.map_eq_some_iff.mp e
    exact in_ok G true I wd h1 h2 rx ry e0 (q _ H same_refl (by simp only [Rep]; rfl))
  · split at e
    · cases e
      simp only [Rep] at h2; subst h2
      refine op_isN pins s σ H _ _ v u Q I rx ry ⟨rfl, ?_⟩
      rw [← isNon_ok h1]
      exact q _ H same_refl (by simp only [Rep])
    · cases e
  · split at e
    · cases e
      simp only [Rep] at h2; subst h2
      refine op_notN pins s σ H _ _ v u Q I rx ry ⟨rfl, ?_⟩
      rw [← isNon_ok h1]
      exact q _ H same_refl (by simp only [Rep])
    · cases e
  · split at e
    · cases e; simp only [Rep] at h1 h2; subst h1 h2
      exact op_lt pins s σ H _ _ v u Q I rx ry ⟨_, _, rfl, rfl, q _ H same_refl (by simp only [Rep])⟩
    · rename_i xs ys
      unfold ltT at e
      split at e
      · rename_i p p' e1 e2
        split at e
        · rename_i hc
          simp only [Bool.and_eq_true, decide_eq_true_eq] at hc
          obtain ⟨as, r1, _⟩ := rep_reads G I _ vx v p h1 rx e1
          obtain ⟨bs, r2, _⟩ := rep_reads G I _ vy u p' h2 ry e2
          have hu := G.un
          exact rcLt_P p p' X.A s v u as bs b r1 r2 hc.1.1 hc.1.2 (by omega) e _ _ _ _ (fin_b I q)
        · cases e
      · cases e
    · cases e
  · split at e
    · cases e; simp only [Rep] at h1 h2; subst h1 h2
      exact op_le pins s σ H _ _ v u Q I rx ry ⟨_, _, rfl, rfl, q _ H same_refl (by simp only [Rep])⟩
    · cases e; simp only [Rep] at h1 h2; subst h1 h2
      exact op_le_str pins s σ H _ _ v u Q I rx ry ⟨_, _, rfl, rfl, q _ H same_refl (by simp only [Rep])⟩
    · cases e
  · split at e
    · cases e; simp only [Rep] at h1 h2; subst h1 h2
      exact op_gt pins s σ H _ _ v u Q I rx ry ⟨_, _, rfl, rfl, q _ H same_refl (by simp only [Rep])⟩
    · cases e
  · split at e
    · cases e; simp only [Rep] at h1 h2; subst h1 h2
      exact op_ge pins s σ H _ _ v u Q I rx ry ⟨_, _, rfl, rfl, q _ H same_refl (by simp only [Rep])⟩
    · cases e
end
end Mp
end
section -- MpD
set_option Elab.async false
set_option linter.all false
set_option maxRecDepth 100000
set_option maxHeartbeats 4000000
/-! Mp, part D: subscripts, slices, built-ins, methods. -/
namespace Mp
open PySem L2 PyProof.Rows
section
variable {X : Cx} {pins : List (Addr × Obj)} {σ : L2.St} {H : Hp} {s : Shared} {j : J}
theorem atI_rep {K : PySem.W.Frag} {w : World} {xs : List D} {vs : List V} {i : Int} {d : D} (rl : RepL K w H j xs vs) (e : atI xs i = some d) : ∃ v, atI vs i = some v ∧ Rep K w H j d v := by
  unfold atI at e ⊢
  obtain ⟨k, e1, e2⟩ := Option.bind_eq_some_iff.mp e
  obtain ⟨v, h1, h2⟩ := rl.get e2
  rw [rl.length] at e1
  exact ⟨v, by rw [e1]; exact h1, h2⟩
theorem getK_rep {K : PySem.W.Frag} {w : World} : ∀ {ks : List Key} {ds : List D} {vs : List V} {k : Key}, ks.length = vs.length → RepL K w H j ds vs →
    (match getK ks ds k with
      | some d => ∃ v, valV (ks.zip vs) k = some v ∧ Rep K w H j d v
      | none => valV (ks.zip vs) k = none)
  | [], ds, vs, k, hl, rl => by
    cases vs with
    | nil => simp only [getK]; rfl
    | cons v vs => cases hl
  | q :: ks, [], vs, k, hl, rl => by
    simp only [RepL] at rl; subst rl; cases hl
  | q :: ks, d :: ds, vs, k, hl, rl => by
    simp only [RepL] at rl
    obtain ⟨v, r, rfl, h1, h2⟩ := rl
    rw [List.zip_cons_cons]
    simp only [getK]
    by_cases e : q = k
    · rw [if_pos e, valV_pos (p := (q, v)) e]
      exact ⟨v, rfl, h1⟩
    · rw [if_neg e, valV_neg (p := (q, v)) e]
      exact getK_rep (by simpa using hl) h2
theorem getK_wr {K : PySem.W.Frag} {w : World} {a : Addr} {x : Str} : ∀ {ks : List Key} {ds : List D} {vs : List V}, vs.length = ks.length → RepL K w H j ds vs →
    (∀ (i : Nat) (x : Str) (v : V), ks[i]? = some (.inr x) → vs[i]? = some v → ∃ u, PySem.W.nsIn K a x = some (some u) ∧ RelV v u) → ∀ d, getK ks ds (.inr x) = some d → ∃ u v, PySem.W.nsIn K a x = some (some u) ∧ RelV v u ∧ Rep K w H j d v
  | [], ds, vs, hl, rl, h, d, e => by simp only [getK] at e; cases e
  | q :: ks, [], vs, hl, rl, h, d, e => by simp only [getK] at e; cases e
  | q :: ks, c :: ds, vs, hl, rl, h, d, e => by
    simp only [RepL] at rl
    obtain ⟨v, r, rfl, h1, h2⟩ := rl
    simp only [getK] at e
    by_cases z : q = .inr x
    · rw [if_pos z] at e; cases e
      obtain ⟨u, q1, q2⟩ := h 0 x v (by rw [z]; rfl) rfl
      exact ⟨u, v, q1, q2, h1⟩
    · rw [if_neg z] at e
      exact getK_wr (by simpa using hl) h2 (fun i x v e1 e2 => h (i + 1) x v (by simpa using e1) (by simpa using e2)) d e
theorem getK_no {x : Str} : ∀ {ks : List Key} {ds : List D}, ds.length = ks.length → getK ks ds (.inr x) = none → Sum.inr x ∉ ks
  | [], ds, hl, e => by simp
  | q :: ks, [], hl, e => nomatch hl
  | q :: ks, c :: ds, hl, e => by
    simp only [getK] at e
    by_cases z : q = .inr x
    · rw [if_pos z] at e; cases e
    · rw [if_neg z] at e
      intro hm
      rcases List.mem_cons.mp hm with y | y
      · exact z y.symm
      · exact getK_no (by simpa using hl) e y
/-- the end of a subscript over a built-in's object -/
theorem tail_any' {prog : Program} {w : World} {A : Around} {E : Value → Shared → Prop} {s : Shared} {value slice : PySem.Expr} {o i : Value} {T id : String} {Q : Value → Shared → Prop} (hT : s.TypeIs o T)
    (hl : typeLookup (.type T) "__getitem__" = pure (some (.builtin id))) (h : wpAny (model prog w) A (getItem o i) Q E s) (hs : subscripted slice false o i = operate [o, i] (getItem o i)) :
    wpAny (model prog w) A (subscriptTail value slice o i) Q E s := by
  unfold subscriptTail
  refine wpAny_bind ?_
  rw [getitemInPython_of_ne hT.not_modules]
  refine wpAny_bind (wpAny_specialOf hT hl ?_)
  have done : wpAny (model prog w) A (subscripted slice false o i) (fun r s3 => wpAny (model prog w) A (letTemporaryGo value o r >>= fun _ => pure r) Q E s3) E s := by
    rw [hs]
    exact wpAny_operating (wpAny_mono h (fun r s3 h3 => wpAny_bind (wpAny_letTemporaryGo (wpAny_pure h3))) fun _ _ x => x)
  first
    | exact wpAny_pure (wpAny_bind done)
    | exact wpAny_bind (wpAny_pure (wpAny_bind done))
    | exact wpAny_bind done
/-- o[i], where the index is no slice: the tree of the library's subscript -/
theorem sub_ok (G : Gx X) : IxR X (rD2 X.K X.w ixD) := by
  intro value slice pins s σ H vx vy v u Q I rx ry h hs
  obtain ⟨x, y, d, j, m, h1, h2, wd, e', q⟩ := h
  have e : ixD m x y = some d := e'
  clear e'
  have hu := G.un
  unfold ixD at e
  split at e
  · simp only [Rep] at h1 h2
    obtain ⟨a, vs, rfl, qa, rl⟩ := h1
    subst h2
    obtain ⟨z, e1, e2⟩ := atI_rep rl e
    exact ix_tup value slice pins s σ H _ _ v u Q I rx ry ⟨a, vs, _, z, rfl, rfl, tup_sq qa, e1, q _ H same_refl e2⟩ hs
  · simp only [Rep] at h1 h2
    obtain ⟨a, vs, rfl, _, qa, rl⟩ := h1
    subst h2
    obtain ⟨z, e1, e2⟩ := atI_rep rl e
    exact ix_list value slice pins s σ H _ _ v u Q I rx ry ⟨a, vs, _, z, rfl, rfl, .inl qa, e1, q _ H same_refl e2⟩ hs
  · split at e
    · rename_i xs hm
      simp only [Rep] at h1 h2
      obtain ⟨a, rfl, qa⟩ := h1
      subst h2
      obtain ⟨vs, ha, rl⟩ := wd.at_ _ _ _ qa hm
      obtain ⟨z, e1, e2⟩ := atI_rep rl e
      exact ix_list value slice pins s σ H _ _ v u Q I rx ry ⟨a, vs, _, z, rfl, rfl, SqL.of ha, e1, q _ H same_refl e2⟩ hs
    · rename_i xs hm
      simp only [Rep] at h1 h2
      obtain ⟨a, rfl, qa⟩ := h1
      subst h2
      obtain ⟨o, vs, ha, _, rl⟩ := wd.at_ _ _ _ qa hm
      obtain ⟨z, e1, e2⟩ := atI_rep rl e
      exact ix_tup value slice pins s σ H _ _ v u Q I rx ry ⟨a, vs, _, z, rfl, rfl, .inl (.inr ⟨o, ha⟩), e1, q _ H same_refl e2⟩ hs
    · cases e
  · split at e
    · rename_i hz
      obtain ⟨c, e1, rfl⟩ := Option.map_eq_some_iff.mp e
      simp only [Rep] at h1 h2
      subst h1 h2
      exact ix_str value slice pins s σ H _ _ v u Q I rx ry ⟨_, _, c, rfl, rfl, hz, e1, q _ H same_refl (by simp only [Rep])⟩ hs
    · cases e
  · rename_i ks ds k
    obtain ⟨q', e1, e2⟩ := Option.bind_eq_some_iff.mp e
    simp only [Rep] at h1
    obtain ⟨a, vs, rfl, _, qa, hl, rl⟩ := h1
    have hx := dKey_rep e1 h2
    subst hx
    cases rx
    have gk := getK_rep (k := q') hl rl
    rw [e2] at gk
    obtain ⟨z, e3, e4⟩ := gk
    have g : DGet H a (kV q') (some z) := .inl ⟨_, q', .inl qa, rfl, e3.symm⟩
    exact tail_any' (dict_typeIs I g) PySem.F.slot_dict_getitem.lookup (d_getItem (by omega) I g ry fun w' s' I' r' => ⟨z, H, I', r', q _ H same_refl e4⟩) hs
  · rename_i ks ds x'
    simp only [Rep] at h1 h2
    subst h2
    obtain ⟨a, vs, rfl, ⟨⟨es, n, kd⟩, k1, k2, k3, k4, k5⟩, rl⟩ := h1
    obtain ⟨u0, z, e1, e2, e3⟩ := getK_wr k5 rl k1 d e
    cases (show v = Value.ref a from rx)
    exact tail_any' (kd_type kd I) PySem.F.slot_dict_getitem.lookup (op_item_kd kd pins s σ H (.ref a) _ _ u Q I rfl ry ⟨x', u0, z, rfl, rfl, e1, e2, q _ H same_refl e3⟩) hs
  · cases e

/-! ### slices -/
theorem cutD_rep {K : PySem.W.Frag} {w : World} {xs : List D} {vs : List V} {lo hi : Option Int} (rl : RepL K w H j xs vs) : RepL K w H j (cutD xs lo hi) (cutV vs lo hi) := by
  unfold cutD cutV
  rw [rl.length]
  exact (rl.drop _).take _
def rDSl (K : PySem.W.Frag) (w : World) : V → Option Int → Option Int → Hp → VK → Prop := fun v lo hi H Q => ∃ x d j m, Rep K w H j x v ∧ Wd K w H j m ∧ sliD m x lo hi = some d ∧ ∀ z H', Same H H' → Rep K w H' j d z → Q z H'
theorem cutV_whole {vs : List V} {lo hi : Option Int} (h : HT.sIx vs.length 0 lo = 0 ∧ HT.sIx vs.length vs.length hi = vs.length) : cutV vs lo hi = vs := by
  unfold cutV
  rw [h.1, h.2]
  simp
theorem sli_ok : SlR X (rDSl X.K X.w) := by
  intro pins s σ H vx v vl vu lo hi sl Q I rx hs pl pu h
  obtain ⟨x, d, j, m, h1, wd, e, q⟩ := h
  unfold sliD at e
  split at e
  · cases e
    have h0 := h1
    simp only [Rep] at h1
    obtain ⟨a, vs, rfl, qa, rl⟩ := h1
    refine sl_tupA pins s σ H _ v vl vu lo hi sl Q I rx hs pl pu ⟨a, vs, rfl, tup_sq qa, fun hw => ?_, fun hw p hp => q _ _ (Same.new hp) (rep_tup wd hp (cutD_rep rl))⟩
    refine q _ H same_refl ?_
    have := cutD_rep (lo := lo) (hi := hi) rl
    rw [cutV_whole hw] at this
    simp only [Rep]
    exact ⟨a, vs, rfl, qa, this⟩
  · cases e
    simp only [Rep] at h1
    obtain ⟨a, vs, rfl, _, qa, rl⟩ := h1
    exact sl_list pins s σ H _ v vl vu lo hi sl Q I rx hs pl pu ⟨a, vs, rfl, .inl qa, fun p hp => q _ _ (Same.new hp) (rep_lst wd hp (cutD_rep rl))⟩
  · split at e
    · rename_i xs hm
      cases e
      simp only [Rep] at h1
      obtain ⟨a, rfl, qa⟩ := h1
      obtain ⟨vs, ha, rl⟩ := wd.at_ _ _ _ qa hm
      exact sl_list pins s σ H _ v vl vu lo hi sl Q I rx hs pl pu ⟨a, vs, rfl, SqL.of ha, fun p hp => q _ _ (Same.new hp) (rep_lst wd hp (cutD_rep rl))⟩
    · cases e
  · split at e
    · rename_i z hz
      cases e
      simp only [Rep] at h1
      subst h1
      exact sl_str pins s σ H _ v vl vu lo hi sl Q I rx hs pl pu ⟨z, rfl, hz, q _ H same_refl (by simp only [Rep])⟩
    · cases e
  · cases e

/-! ### x[::-1] -/
theorem filterMap_some {α β : Type} {f : α → Option β} {g : α → β} : ∀ {l : List α}, (∀ m ∈ l, f m = some (g m)) → l.filterMap f = l.map g
  | [], _ => rfl
  | a :: l, h => by
    rw [List.filterMap_cons, h a List.mem_cons_self, List.map_cons, filterMap_some fun m hm => h m (List.mem_cons_of_mem _ hm)]
theorem pick_rev (xs : List Value) : ((List.range xs.length).filterMap fun (m : Nat) => xs.toArray[(((xs.length : Int) - 1) + (m : Int) * (-1)).toNat]?) = xs.reverse := by
  apply List.ext_getElem?
  intro i
  have e1 : ((List.range xs.length).filterMap fun (m : Nat) => xs.toArray[(((xs.length : Int) - 1) + (m : Int) * (-1)).toNat]?) = (List.range xs.length).map fun (m : Nat) => xs.getD (xs.length - 1 - m) .none := by
    refine filterMap_some fun m hm => ?_
    have hm' : m < xs.length := List.mem_range.mp hm
    have e2 : (((xs.length : Int) - 1) + (m : Int) * (-1)).toNat = xs.length - 1 - m := by omega
    rw [e2]
    have hl : xs.length - 1 - m < xs.length := by omega
    simp [List.getElem?_eq_getElem hl, List.getD_eq_getElem?_getD]
  rw [e1, List.getElem?_map]
  by_cases hi : i < xs.length
  · rw [List.getElem?_range hi, List.getElem?_reverse hi]
    have hl : xs.length - 1 - i < xs.length := by omega
    simp [List.getElem?_eq_getElem hl, List.getD_eq_getElem?_getD]
  · rw [List.getElem?_eq_none (by simpa using hi), List.getElem?_eq_none (by simpa using hi)]
    rfl
theorem getItem_tuple_rev {prog : Program} {w : World} {A : Around} {E : Value → Shared → Prop} {s : Shared} {t sl : Addr} {items : List Value} {vl vu vs : Value} {Q : Value → Shared → Prop} (ht : IsTup s.heap t items.toArray) (hs : s.heap.IsSliceOf sl vl vu vs) (pl : IsPart vl none) (pu : IsPart vu none)
    (ps : IsPart vs (some (-1))) (h : Q (.ref s.heap.objs.size) { s with heap := s.heap.push { cls := .type "tuple", data := .seq items.reverse.toArray } }) (hsz : items.length ≤ sizeLine) :
    wpAny (model prog w) A (getItem (.ref t) (.ref sl)) Q E s := by
  have htake : sizeOk (.seq items.reverse.toArray) := by
    show items.reverse.toArray.size ≤ sizeLine
    rw [List.size_toArray, List.length_reverse]
    exact hsz
  obtain ⟨os, hos, hcs, hds⟩ := id hs
  have hTs : s.TypeIs (.ref sl) "slice" := ⟨os, hos, hcs⟩
  unfold getItem
  try with_reducible refine wpAny_holding ?_
  first | refine wpAny_bind (wpAny_pure ?_) | skip
  refine wpAny_bind (wpAny_sequenceKey ht.typeIs (by decide) ?_)
  refine wpAny_bind (wpAny_callSpecial?_slot (name := Str.ofString "__getitem__") ht.typeIs PyProof.Rows.slot_tuple_getitem
    (wpAny_call_entry PyProof.Rows.slot_tuple_getitem ht.typeIs entry_tuple_getitem ?_ (args_tuple_getitem _ _)))
  show wpAny _ _ (Builtin.Tuple.tupleItemsOf (.ref t) >>= _) _ _ s
  refine wpAny_bind (tupleItemsOf_ ht ?_)
  refine wpAny_bind (wpAny_typeOf hTs ?_)
  rw [if_pos (by decide)]
  have applied : wpAny (model prog w) A.in1 (Builtin.Slice.sliceApplied (.ref sl) (pure (items.toArray.size : Int))) (fun r s' => r = (((items.length : Int) - 1), (-1 : Int), items.length) ∧ s = s') (fun _ _ => False) s := by
    unfold Builtin.Slice.sliceApplied Builtin.Slice.sliceFields
    refine wpAny_bind (wpAny_bind (wpAny_field hos hds (x := vl) rfl (wpAny_bind (wpAny_field hos hds (x := vu) rfl (wpAny_bind (wpAny_field hos hds (x := vs) rfl (wpAny_pure ?_)))))))
    refine wpAny_bind (HT.slicePart_ ps ?_)
    show wpAny _ _ (if ((-1 : Int) == 0) = true then _ else _) _ _ s
    rw [if_neg (by decide)]
    refine wpAny_bind (HT.slicePart_ pl (wpAny_bind (HT.slicePart_ pu (wpAny_bind (wpAny_pure ?_)))))
    refine wpAny_pure ⟨?_, rfl⟩
    have e1 : (items.toArray.size : Int) = (items.length : Int) := by simp
    simp only [Builtin.Slice.sliceAdjust, Builtin.Slice.slicePlaces, e1, Option.getD]
    have hn : ((-1 : Int) < 0) := by decide
    have hp : ¬ ((-1 : Int) > 0) := by decide
    simp only [hn, hp, if_true, if_false]
    have h2 : (-(-1 : Int)) = 1 := by decide
    rw [h2, Int.ediv_one]
    congr 2
    split <;> omega
  refine wpAny_bind (wpAny_mono applied (fun r s' hr => ?_) fun _ _ x => x.elim)
  obtain ⟨rfl, rfl⟩ := hr
  show wpAny _ _ (if ((((items.length : Int) - 1)) == 0 && (-1 : Int) == 1 && (items.length == items.toArray.size)) = true then _ else _) _ _ s
  have hno : ¬ (((((items.length : Int) - 1)) == 0 && (-1 : Int) == 1 && (items.length == items.toArray.size)) = true) := by
    rw [show ((-1 : Int) == 1) = false from by decide, Bool.and_false, Bool.false_and]
    exact Bool.false_ne_true
  rw [if_neg hno, pick_rev]
  first
    | exact wpAny_bind (m := Builtin.Tuple.tupleExact _) (wpAny_newObj_type (wpAny_pure ⟨_, rfl, wpAny_pure h⟩) htake)
    | exact wpAny_bind (m := Builtin.Tuple.tupleExact _) (wpAny_newObj_type (wpAny_bind (wpAny_pure (wpAny_pure ⟨_, rfl, wpAny_pure h⟩))) htake)
    | exact wpAny_bind (wpAny_bind (m := Builtin.Tuple.tupleExact _) (wpAny_newObj_type (wpAny_pure (wpAny_pure ⟨_, rfl, wpAny_pure h⟩)) htake))
    | exact wpAny_bind (wpAny_bind (m := Builtin.Tuple.tupleExact _) (wpAny_newObj_type (wpAny_pure ⟨_, rfl, wpAny_pure h⟩) htake))
end
end Mp
end
section -- MpE
set_option Elab.async false
set_option linter.all false
set_option maxRecDepth 100000
set_option maxHeartbeats 4000000
/-! Mp, part E: calls of the module's defs, where no repr is under way. -/
namespace Mp
open PySem L2 PyProof.Rows
/-- a def that keeps its promise where no repr is under way -/
structure FnG (P : Program) (w : World) (K : PySem.W.Frag) (mg : Str → Option Value) (base : Heap) (k : Nat) (f : Addr) (fd : FuncData) (ps : List Str) (sp : Sp) : Prop where
  len : ∀ vs H Q E, sp vs H Q E → vs.length = ps.length
  run : ∀ (A : Around) (outer : List PySem.Env) (s : Shared) (H : Hp) (args : Args) (us : List Value) (vs : List V) (Q : VK) (E : XK), Room k A → A.guards = some [] → Env0 P w K mg base A outer s H →
    BindsTo s fd args (ps.zip us) → Vals vs us → sp vs H Q E → codeAny (model P w) A (.call (.ref f) args) (CR (L2.CX P w) outer P w H s Q E) s
theorem FnG.mono {P : Program} {w : World} {K : PySem.W.Frag} {mg : Str → Option Value} {base : Heap} {k k' : Nat} {f : Addr} {fd : FuncData} {ps : List Str} {sp : Sp} (F : FnG P w K mg base k f fd ps sp) (h : k ≤ k') : FnG P w K mg base k' f fd ps sp :=
  ⟨F.len, fun A outer s H args us vs Q E hr => F.run A outer s H args us vs Q E (hr.mono h)⟩
section
variable {X : Cx} {k : Nat} {f : Addr} {fd : FuncData} {ps : List Str} {sp : Sp} {E : XK}
theorem run_g {pins : List (Addr × Obj)} {σ : L2.St} {H : Hp} {s : Shared} {Q : VK} {args : Args} {us : List Value} {vs : List V} (F : FnG X.prog X.w X.K X.mg X.base k f fd ps sp) (hr : Room k X.A) (hg : X.A.guards = some [])
    (hb : BindsTo s fd args (ps.zip us)) (hx : ∀ (e : Value) (s' : Shared), L2.CX X.prog X.w X.stack H s E e s' → X.xe e s') (I : Inv X pins σ H s) (r : Vals vs us) (h : sp vs H Q E) :
    codeAny (model X.prog X.w) X.A (.call (.ref f) args) (fun r s' => match r with
      | .ok (.ret u) => EP X pins σ Q u s'
      | .ok _ => False
      | .error e => X.xe e s') s := by
  refine codeAny_mono (F.run X.A X.stack s H args us vs Q E hr hg I.env0 hb r h) fun r s' hq => ?_
  cases r with
  | error e => exact hx e s' hq
  | ok fl =>
    cases fl with
    | ret u => exact I.after hq
    | next => exact False.elim hq
    | brk => exact False.elim hq
    | cont => exact False.elim hq
end
/-- from a body to its promise -/
theorem fnG_of {P : Program} {w : World} {K : PySem.W.Frag} {mg : Str → Option Value} {base : Heap} {k : Nat} {f : Addr} {name qual : Str} {params : Arguments} {body : List Stmt} {scope : Scope} {dV kV doc pm cdv ct oc : Value} {an od : Option Addr}
    {osl : Array (Option Value)} {N ps : List Str} {sp : Sp} (lk : K.lookup f = some ⟨oc, od, .func (PySem.W.fnOf name qual params body scope dV kV doc pm an cdv ct), osl⟩) (hcd : PySem.W.codeIn K cdv qual = true) (S : FnScope N ps scope)
    (len : ∀ vs H Q E, sp vs H Q E → vs.length = ps.length)
    (hbody : ∀ (A : Around) (outer : List PySem.Env) (s : Shared) (H : Hp) (vs : List V) (Q : VK) (E : XK), Room k (A.deeper (envOfC qual scope s.heap.objs.size f cdv)) → (A.deeper (envOfC qual scope s.heap.objs.size f cdv)).guards = some [] → sp vs H Q E →
      ∃ t, PSs (cxOf (L2.CX P w) P w K mg base N qual scope f cdv A outer s H E) body t ∧ t { nx := fun _ H' => Q .non H', rt := Q } (start N vs) H) :
    FnG P w K mg base (k + 1) f (PySem.W.fnOf name qual params body scope dV kV doc pm an cdv ct) ps sp := by
  refine ⟨len, fun A outer s H args us vs Q E hr hgd e0 hb r hsp => ?_⟩
  have hl := len _ _ _ _ hsp
  have KX : K.In s.heap := e0.mod.kin.keeps fun b o e => (e0.bs b o e).1
  have lim : s.heap.NoLimit := e0.mod.nolimit.keeps fun b o e => (e0.bs b o e).1
  have hkind : ∀ y ∈ ps.zip us, scope.names.lookup y.1 = some .local ∨ (scope.names.lookup y.1 = some .cell ∧ ((cellsFrom (s.heap.objs.size + 1) scope.names []).lookup y.1).isSome = true) := fun ⟨n, v⟩ hy => by
    rcases S.par n (List.of_mem_zip hy).1 with q | q
    · exact .inl q
    · exact .inr ⟨q, PySem.W.cellsFrom_some _ _ _ (.inl q)⟩
  refine codeAny_call_function hr.depth (KX _ _ lk) rfl S.co S.gen rfl (PySem.W.codeRec_of KX hcd) (hb _ _ _ _ ?_)
  refine wpAny_newFunctionEnv_cells S.kind hkind fun env he s1 x => ?_
  subst he
  refine ⟨lim.keeps x.toInCall.keep, codeAny_func ?_⟩
  obtain ⟨t, ht, hq⟩ := hbody A outer s H vs Q E (hr.deeper _) hgd hsp
  have I : Inv (cxOf (L2.CX P w) P w K mg base N qual scope f cdv A outer s H E) [] (start N vs) H s1 := inv_start S hr.hd e0 hl r x
  refine wpAny_mono (ht.run [] s1 (start N vs) H _ I hq) (fun fl s' hs => ?_) fun e s' hs => hs
  cases fl with
  | ret u =>
    obtain ⟨v, σ', H', J, rv, q⟩ := hs
    exact ⟨v, H', J.os, J.bare, J.base, J.hok, rv, q⟩
  | next =>
    obtain ⟨σ', H', J, q⟩ := hs
    exact ⟨V.non, H', J.os, J.bare, J.base, J.hok, rfl, q⟩
  | brk =>
    obtain ⟨_, _, _, q⟩ := hs
    exact False.elim q
  | cont =>
    obtain ⟨_, _, _, q⟩ := hs
    exact False.elim q
end Mp
end
section -- MpF
set_option Elab.async false
set_option linter.all false
set_option maxRecDepth 100000
set_option maxHeartbeats 4000000
/-! Mp, part F: readings; the rules of expressions. -/
namespace Mp
open PySem L2 PyProof.Rows
section
variable (cA : Nat → Addr) (K : PySem.W.Frag) (w : World) (W : XK)
def tE (f : Env → M D) : TE := fun σ H Q => ∃ r m j, RS K w H j σ r ∧ Wd K w H j m ∧ Pst cA K w W H j (fun d _ H' j' => ∀ v, Rep K w H' j' d v → Q v H') (f r m)
def tL (f : Env → M (List D)) : TA := fun σ H Q => ∃ r m j, RS K w H j σ r ∧ Wd K w H j m ∧ Pst cA K w W H j (fun d _ H' j' => ∀ v, RepL K w H' j' d v → Q v H') (f r m)
def tT (f : Env → M Bool) : TT := fun σ H Q => ∃ r m j, RS K w H j σ r ∧ Wd K w H j m ∧ Pst cA K w W H j (fun b _ H' _ => Q b H') (f r m)
def tO' (f : Env → M (Option Int)) : TO := fun σ H Q => ∃ r m j, RS K w H j σ r ∧ Wd K w H j m ∧ Pst cA K w W H j (fun b _ H' _ => Q b H') (f r m)
def tG (sl : List Nat) (f : D → Env → M Env) : TG := fun v σ H Q => ∃ d r m j, Rep K w H j d v ∧ RS K w H j σ r ∧ Wd K w H j m ∧
  Pst cA K w W H j (fun r' _ H' j' => ∀ σ', RS K w H' j' σ' r' → wipe σ' sl = wipe σ sl → Q σ' H') (f d r m)
def tGs (sl : List Nat) (f : List D → Env → M Env) : TGs := fun vs σ H Q => ∃ d r m j, RepL K w H j d vs ∧ RS K w H j σ r ∧ Wd K w H j m ∧
  Pst cA K w W H j (fun r' _ H' j' => ∀ σ', RS K w H' j' σ' r' → wipe σ' sl = wipe σ sl → Q σ' H') (f d r m)
def endK (B : Ends) (f : Fl) (H' : Hp) (j' : J) : Prop := match f with
  | .nx r' => ∀ σ', RS K w H' j' σ' r' → B.nx σ' H'
  | .bk r' => ∀ σ', RS K w H' j' σ' r' → B.bk σ' H'
  | .ct r' => ∀ σ', RS K w H' j' σ' r' → B.ct σ' H'
  | .rt d => ∀ v, Rep K w H' j' d v → B.rt v H'
def tS (f : Env → M Fl) : TS := fun B σ H => ∃ r m j, RS K w H j σ r ∧ Wd K w H j m ∧ Pst cA K w W H j (fun b _ H' j' => endK K w B b H' j') (f r m)
end
/-- what the rules need of the context -/
structure Kit (X : Cx) (W : XK) : Prop where
  gx : Gx X
  nd : X.N.Nodup
  esc : ∀ pins σ H s e s', Inv X pins σ H s → L2.CX X.prog X.w X.stack H s W e s' → X.xe e s'
section
variable {X : Cx} {cA : Nat → Addr} {W : XK} {pos : Pos}
theorem _root_.L2.PE.imp {e : Expr} {t t' : TE} (h : PE X e t) (k : ∀ σ H Q, t' σ H Q → t σ H Q) : PE X e t' := ⟨fun pins s σ H Q I q => h.run pins s σ H Q I (k _ _ _ q)⟩
theorem _root_.L2.PT.imp {e : Expr} {t t' : TT} (h : PT X e t) (k : ∀ σ H Q, t' σ H Q → t σ H Q) : PT X e t' := ⟨fun pins s σ H Q I q => h.run pins s σ H Q I (k _ _ _ q)⟩
theorem _root_.L2.PW.imp {e : Expr} {t t' : TT} (h : PW X e t) (k : ∀ σ H Q, t' σ H Q → t σ H Q) : PW X e t' := ⟨fun wh pins s σ H Q I q => h.run wh pins s σ H Q I (k _ _ _ q)⟩
theorem _root_.L2.PA.imp {e : List Expr} {t t' : TA} (h : PA X e t) (k : ∀ σ H Q, t' σ H Q → t σ H Q) : PA X e t' := ⟨fun p pins s σ H Q I q => h.run p pins s σ H Q I (k _ _ _ q)⟩
theorem _root_.L2.PO.imp {e : Option Expr} {t t' : TO} (h : PO X e t) (k : ∀ σ H Q, t' σ H Q → t σ H Q) : PO X e t' := ⟨fun pins s σ H Q I q => h.run pins s σ H Q I (k _ _ _ q)⟩
theorem _root_.L2.PG.imp {e : Expr} {t t' : TG} (h : PG X e t) (k : ∀ v σ H Q, t' v σ H Q → t v σ H Q) : PG X e t' := ⟨fun pins s σ H v u Q I r q => h.run pins s σ H v u Q I r (k _ _ _ _ q)⟩
theorem _root_.L2.PGs.imp {e : List Expr} {t t' : TGs} (h : PGs X e t) (k : ∀ v σ H Q, t' v σ H Q → t v σ H Q) : PGs X e t' := ⟨fun pins s σ H v u Q I r q => h.run pins s σ H v u Q I r (k _ _ _ _ q)⟩
theorem _root_.L2.PS.imp {e : Stmt} {t t' : TS} (h : PS X e t) (k : ∀ D σ H, t' D σ H → t D σ H) : PS X e t' := ⟨fun pins s σ H D I q => h.run pins s σ H D I (k _ _ _ q)⟩
theorem _root_.L2.PSs.imp {e : List Stmt} {t t' : TS} (h : PSs X e t) (k : ∀ D σ H, t' D σ H → t D σ H) : PSs X e t' := ⟨fun pins s σ H D I q => h.run pins s σ H D I (k _ _ _ q)⟩
theorem Pst.optM {α : Type} {K : PySem.W.Frag} {w : World} {H : Hp} {j : J} {k : α → Sto → Hp → J → Prop} {f : Sto → Option α} {m : Sto} (h : Pst cA K w W H j k (optM f m)) : ∃ d, f m = some d ∧ Pst cA K w W H j k (.ok d m) := by
  unfold Mp.optM at h
  cases e : f m with
  | none => rw [e] at h; exact h.elim
  | some d => rw [e] at h; exact ⟨d, rfl, h⟩
theorem Pst.opt {α : Type} {K : PySem.W.Frag} {w : World} {H : Hp} {j : J} {k : α → Sto → Hp → J → Prop} {f : Option α} {m : Sto} (h : Pst cA K w W H j k (M.opt f m)) : ∃ d, f = some d ∧ Pst cA K w W H j k (.ok d m) := by
  cases e : f with
  | none => rw [e] at h; exact h.elim
  | some d => rw [e] at h; exact ⟨d, rfl, h⟩
theorem Pst.ite {α : Type} {K : PySem.W.Frag} {w : World} {H : Hp} {j : J} {k : α → Sto → Hp → J → Prop} {p : Prop} [Decidable p] {x : M α} {m : Sto} (h : Pst cA K w W H j k ((if p then x else M.bad) m)) : p ∧ Pst cA K w W H j k (x m) := by
  by_cases q : p
  · rw [if_pos q] at h; exact ⟨q, h⟩
  · rw [if_neg q] at h; exact h.elim

variable {cl : Nat → List D → M D} {C : List D}
/-- a reading under another name -/
theorem PE.as {e : Expr} {f g : Env → M D} (h : PE X e (tE cA X.K X.w W f)) (q : ∀ r m, g r m = f r m) : PE X e (tE cA X.K X.w W g) := h.imp fun σ H Q ⟨r, m, j, rs, wd, hh⟩ => ⟨r, m, j, rs, wd, by rw [← q]; exact hh⟩
theorem PT.as {e : Expr} {f g : Env → M Bool} (h : PT X e (tT cA X.K X.w W f)) (q : ∀ r m, g r m = f r m) : PT X e (tT cA X.K X.w W g) := h.imp fun σ H Q ⟨r, m, j, rs, wd, hh⟩ => ⟨r, m, j, rs, wd, by rw [← q]; exact hh⟩

/-! names, constants -/
theorem s_loc {i : Nat} {x : Str} (hN : X.N[i]? = some x) (hv : Vis X.env.scope x) (hd : (x == ("__debug__" : Str)) = false := by decide) (hcd : (x == ("__classdict__" : Str)) = false := by decide) : PE X (.Name x pos) (tE cA X.K X.w W (ev cl C (.loc i))) :=
  (pe_var hN hv hd hcd).imp fun σ H Q ⟨r, m, j, rs, wd, h⟩ => by
    simp only [ev] at h
    cases e : r[i]? with
    | none => rw [e] at h; exact h.elim
    | some o =>
      rw [e] at h
      cases o with
      | none => exact h.elim
      | some d =>
        obtain ⟨v, q1, q2⟩ := rs.at_ i d e
        exact ⟨v, q1, Pst.ret h wd v q2⟩
/-- what stands whatever the heap is -/
def Std (K : PySem.W.Frag) (w : World) (d : D) (v : V) : Prop := ∀ H j, Rep K w H j d v
theorem s_c {e : Expr} {v : V} {d : D} (h : PE X e (tC v)) (hr : Std X.K X.w d v) : PE X e (tE cA X.K X.w W (ev cl C (.cst d))) :=
  h.imp fun σ H Q ⟨r, m, j, rs, wd, h⟩ => by
    simp only [ev] at h
    exact Pst.ret h wd v (hr H j)
theorem s_int {i : Int} {j : Nat} : PE X (.Constant (.int i) j pos) (tE cA X.K X.w W (ev cl C (.cst (.int i)))) := s_c pe_int fun _ _ => by simp only [Rep]
theorem s_bl {b : Bool} {j : Nat} : PE X (.Constant (.bool b) j pos) (tE cA X.K X.w W (ev cl C (.cst (.bl b)))) := s_c pe_bl fun _ _ => by simp only [Rep]
theorem s_non {j : Nat} : PE X (.Constant .none j pos) (tE cA X.K X.w W (ev cl C (.cst .non))) := s_c pe_non fun _ _ => by simp only [Rep]
theorem s_str {x : Str} {j : Nat} : PE X (.Constant (.str x) j pos) (tE cA X.K X.w W (ev cl C (.cst (.str x)))) := s_c pe_str fun _ _ => by simp only [Rep]
theorem s_glo {i : Nat} {d : D} {x : Str} {u : Value} {v : V} (hg : Gl X x) (hm : X.mg x = some u) (rv : RelV v u) (hC : C[i]? = some d) (hr : Std X.K X.w d v) (hd : (x == ("__debug__" : Str)) = false := by decide) : PE X (.Name x pos) (tE cA X.K X.w W (ev cl C (.glo i))) :=
  (pe_glob hg hm rv hd).imp fun σ H Q ⟨r, m, j, rs, wd, h⟩ => by
    simp only [ev] at h
    obtain ⟨d', e, h⟩ := h.opt
    rw [hC] at e; cases e
    exact Pst.ok h wd v (hr H j)
/-! argument lists, displays -/
theorem s_nil : PA X [] (tL cA X.K X.w W (evs cl C .n)) := pa_nil.imp fun σ H Q ⟨r, m, j, rs, wd, h⟩ => by
  simp only [evs] at h
  exact Pst.ret h wd [] .nil
theorem s_cons {e : Expr} {es : List Expr} {e' : E} {es' : Es} (h1 : PE X e (tE cA X.K X.w W (ev cl C e'))) (h2 : PA X es (tL cA X.K X.w W (evs cl C es')))
    (hs : starEach (e :: es) X.env = (false, eval e X.env) :: starEach es X.env := by rfl) : PA X (e :: es) (tL cA X.K X.w W (evs cl C (.c e' es'))) :=
  (pa_cons h1 h2 hs).imp fun σ H Q ⟨r, m, j, rs, wd, h⟩ => by
    simp only [evs] at h
    refine ⟨r, m, j, rs, wd, (Pst.bnd h).mono fun d m1 H1 j1 e1 wd1 h1 v rv => ?_⟩
    refine ⟨r, m1, j1, rs.ext e1, wd1, (Pst.bnd h1).mono fun ds m2 H2 j2 e2 wd2 h2 vs rvs => ?_⟩
    exact Pst.ret h2 wd2 _ (RepL.cons (rv.ext e2) rvs)
theorem s_tup {es : List Expr} {es' : Es} {k : Nat} (h : PA X es (tL cA X.K X.w W (evs cl C es'))) : PE X (.Tuple es k pos) (tE cA X.K X.w W (ev cl C (.tup es'))) :=
  (pe_tup h).imp fun σ H Q ⟨r, m, j, rs, wd, h⟩ => by
    simp only [ev] at h
    refine ⟨r, m, j, rs, wd, (Pst.bnd h).mono fun ds m1 H1 j1 e1 wd1 h1 vs rvs => ?_⟩
    obtain ⟨z, h1⟩ := h1.ite
    refine ⟨by rw [← rvs.length]; exact z, fun p hp => ?_⟩
    exact h1 _ _ (Ext.new1 hp) (wd1.same (Same.new hp)) _ (rep_tup wd1 hp rvs)
theorem s_lst {es : List Expr} {es' : Es} (h : PA X es (tL cA X.K X.w W (evs cl C es'))) : PE X (.List es pos) (tE cA X.K X.w W (ev cl C (.lst es'))) :=
  (pe_lst h).imp fun σ H Q ⟨r, m, j, rs, wd, h⟩ => by
    simp only [ev] at h
    refine ⟨r, m, j, rs, wd, (Pst.bnd h).mono fun ds m1 H1 j1 e1 wd1 h1 vs rvs => ?_⟩
    obtain ⟨z, h1⟩ := h1.ite
    refine ⟨by rw [← rvs.length]; exact z, fun p hp => ?_⟩
    exact h1 _ _ (Ext.new1 hp) (wd1.same (Same.new hp)) _ (rep_lst wd1 hp rvs)
/-- a list that will be changed -/
theorem s_lsm {es : List Expr} {es' : Es} (h : PA X es (tL cA X.K X.w W (evs cl C es'))) : PE X (.List es pos) (tE cA X.K X.w W (ev cl C (.lsm es'))) :=
  (pe_lst h).imp fun σ H Q ⟨r, m, j, rs, wd, h⟩ => by
    simp only [ev] at h
    refine ⟨r, m, j, rs, wd, (Pst.bnd h).mono fun ds m1 H1 j1 e1 wd1 h1 vs rvs => ?_⟩
    obtain ⟨z, h1⟩ := h1.ite
    refine ⟨by rw [← rvs.length]; exact z, fun p hp => ?_⟩
    obtain ⟨e2, wd2⟩ := wd1.push (o := .lst vs) (c := .lst ds) hp ⟨vs, upd_same, RepL.ext (j' := j1.add p) ⟨⟨⟨[p], rfl⟩, fun a u _ q => Same.new hp a u q, fun a ha => by
      rcases ha with ha | ha
      · rcases List.mem_append.mp ha with z | z
        · exact .inl (.inl z)
        · rw [List.mem_singleton.mp z]; exact .inr hp
      · exact .inl (.inr ha), fun a o u q => Same.new hp a _ q⟩, rfl, fun a u _ q => Same.new hp a u q⟩ _ _ rvs⟩
    refine h1 _ _ e2 wd2 _ ?_
    simp only [Rep]
    refine ⟨p, rfl, ?_⟩
    show (j1.ix ++ [p])[m1.length]? = some p
    rw [← wd1.len, List.getElem?_append_right (Nat.le_refl _)]
    simp
/-! operators -/
theorem s_bin {a b : Expr} {a' b' : E} {o : Operator} (k : Kit X W) (ha : PE X a (tE cA X.K X.w W (ev cl C a'))) (hb : PE X b (tE cA X.K X.w W (ev cl C b'))) : PE X (.BinOp a o b pos) (tE cA X.K X.w W (ev cl C (.bin o a' b'))) :=
  (pe_op (bin_ok k.gx o) ha hb).imp fun σ H Q ⟨r, m, j, rs, wd, h⟩ => by
    simp only [ev] at h
    refine ⟨r, m, j, rs, wd, (Pst.bnd h).mono fun x m1 H1 j1 e1 wd1 h1 v rv => ?_⟩
    refine ⟨r, m1, j1, rs.ext e1, wd1, (Pst.bnd h1).mono fun y m2 H2 j2 e2 wd2 h2 u ru => ?_⟩
    obtain ⟨d, e, h2⟩ := h2.optM
    exact ⟨x, y, d, j2, m2, rv.ext e2, ru, wd2, e, fun z H' s hz => h2 H' j2 (.of_same s) (wd2.same s) z hz⟩
theorem s_neg {a : Expr} {a' : E} (ha : PE X a (tE cA X.K X.w W (ev cl C a'))) : PE X (.UnaryOp .USub a pos) (tE cA X.K X.w W (ev cl C (.neg a'))) :=
  (pe_un un_neg ha).imp fun σ H Q ⟨r, m, j, rs, wd, h⟩ => by
    simp only [ev] at h
    refine ⟨r, m, j, rs, wd, (Pst.bnd h).mono fun x m1 H1 j1 e1 wd1 h1 v rv => ?_⟩
    split at h1
    · rename_i i
      simp only [Rep] at rv
      exact ⟨i, rv, Pst.ret h1 wd1 _ (by simp only [Rep])⟩
    · exact h1.elim
theorem s_cmp {a b : Expr} {a' b' : E} {o : CmpOp} (k : Kit X W) (ha : PE X a (tE cA X.K X.w W (ev cl C a'))) (hb : PE X b (tE cA X.K X.w W (ev cl C b'))) (hm : behindInMarks o b = false := by rfl) : PE X (.Compare a [o] [b] pos) (tE cA X.K X.w W (ev cl C (.cmp o a' b'))) :=
  (pe_cmpR (cmp_ok k.gx o) ha hb hm).imp fun σ H Q ⟨r, m, j, rs, wd, h⟩ => by
    simp only [ev] at h
    refine ⟨r, m, j, rs, wd, (Pst.bnd h).mono fun x m1 H1 j1 e1 wd1 h1 v rv => ?_⟩
    refine ⟨r, m1, j1, rs.ext e1, wd1, (Pst.bnd h1).mono fun y m2 H2 j2 e2 wd2 h2 u ru => ?_⟩
    unfold M.bnd cmpM at h2
    cases e : cmpD m2 o x y with
    | none => rw [e] at h2; exact h2.elim
    | some b =>
      rw [e] at h2
      exact ⟨x, y, .bl b, j2, m2, rv.ext e2, ru, wd2, congrArg (Option.map D.bl) e, fun z H' s hz => h2 H' j2 (.of_same s) (wd2.same s) z hz⟩
theorem t_cmp {a b : Expr} {a' b' : E} {o : CmpOp} (k : Kit X W) (ha : PE X a (tE cA X.K X.w W (ev cl C a'))) (hb : PE X b (tE cA X.K X.w W (ev cl C b'))) (hm : behindInMarks o b = false := by rfl) : PT X (.Compare a [o] [b] pos) (tT cA X.K X.w W (evT cl C (.cmp o a' b'))) :=
  (pt_cmpR (cmp_ok k.gx o) ha hb hm).imp fun σ H Q ⟨r, m, j, rs, wd, h⟩ => by
    simp only [evT] at h
    refine ⟨r, m, j, rs, wd, (Pst.bnd h).mono fun x m1 H1 j1 e1 wd1 h1 v rv => ?_⟩
    refine ⟨r, m1, j1, rs.ext e1, wd1, (Pst.bnd h1).mono fun y m2 H2 j2 e2 wd2 h2 u ru => ?_⟩
    unfold cmpM at h2
    cases e : cmpD m2 o x y with
    | none => rw [e] at h2; exact h2.elim
    | some b =>
      rw [e] at h2
      exact ⟨x, y, .bl b, j2, m2, rv.ext e2, ru, wd2, congrArg (Option.map D.bl) e, fun z H' s hz => by
        simp only [Rep] at hz
        exact ⟨b, hz, h2 H' j2 (.of_same s) (wd2.same s)⟩⟩
theorem s_chn {a b c : Expr} {a' b' c' : E} {o p : CmpOp} (k : Kit X W) (ha : PE X a (tE cA X.K X.w W (ev cl C a'))) (hb : PE X b (tE cA X.K X.w W (ev cl C b'))) (hc : PE X c (tE cA X.K X.w W (ev cl C c')))
    (hm : lastMarks [o, p] [b, c] = false := by with_unfolding_all rfl) : PE X (.Compare a [o, p] [b, c] pos) (tE cA X.K X.w W (ev cl C (.chn o p a' b' c'))) :=
  (pe_chain (cmp_ok k.gx o) (cmp_ok k.gx p) ha hb hc hm).imp fun σ H Q ⟨r, m, j, rs, wd, h⟩ => by
    simp only [ev] at h
    refine ⟨r, m, j, rs, wd, (Pst.bnd h).mono fun x m1 H1 j1 e1 wd1 h1 v rv => ?_⟩
    refine ⟨r, m1, j1, rs.ext e1, wd1, (Pst.bnd h1).mono fun y m2 H2 j2 e2 wd2 h2 u ru => ?_⟩
    replace h2 := Pst.bnd h2
    unfold cmpM at h2
    cases e : cmpD m2 o x y with
    | none => rw [e] at h2; exact h2.elim
    | some b =>
      rw [e] at h2
      refine ⟨x, y, .bl b, j2, m2, rv.ext e2, ru, wd2, congrArg (Option.map D.bl) e, fun z H' s hz => ?_⟩
      simp only [Rep] at hz
      refine ⟨b, hz, ?_⟩
      have h3 := h2 H' j2 (.of_same s) (wd2.same s)
      cases b with
      | false => exact Pst.ret h3 (wd2.same s) _ (by simp only [Rep])
      | true =>
        refine ⟨r, m2, j2, ((rs.ext e1).ext e2).ext (.of_same s), wd2.same s, (Pst.bnd h3).mono fun z m3 H3 j3 e3 wd3 h3 t rt => ?_⟩
        replace h3 := Pst.bnd h3
        unfold cmpM at h3
        cases e' : cmpD m3 p y z with
        | none => simp only [e'] at h3; exact h3.elim
        | some b' =>
          simp only [e'] at h3
          exact ⟨y, z, .bl b', j3, m3, (ru.ext (.of_same s)).ext e3, rt, wd3, congrArg (Option.map D.bl) e', fun z H' s hz => Pst.ret (h3 H' j3 (.of_same s) (wd3.same s)) (wd3.same s) z hz⟩
theorem t_chn {a b c : Expr} {a' b' c' : E} {o p : CmpOp} (k : Kit X W) (ha : PE X a (tE cA X.K X.w W (ev cl C a'))) (hb : PE X b (tE cA X.K X.w W (ev cl C b'))) (hc : PE X c (tE cA X.K X.w W (ev cl C c')))
    (hm : lastMarks [o, p] [b, c] = false := by with_unfolding_all rfl) : PT X (.Compare a [o, p] [b, c] pos) (tT cA X.K X.w W (evT cl C (.chn o p a' b' c'))) :=
  (pt_chain (cmp_ok k.gx o) (cmp_ok k.gx p) ha hb hc hm).imp fun σ H Q ⟨r, m, j, rs, wd, h⟩ => by
    simp only [evT] at h
    refine ⟨r, m, j, rs, wd, (Pst.bnd h).mono fun x m1 H1 j1 e1 wd1 h1 v rv => ?_⟩
    refine ⟨r, m1, j1, rs.ext e1, wd1, (Pst.bnd h1).mono fun y m2 H2 j2 e2 wd2 h2 u ru => ?_⟩
    replace h2 := Pst.bnd h2
    unfold cmpM at h2
    cases e : cmpD m2 o x y with
    | none => rw [e] at h2; exact h2.elim
    | some b =>
      rw [e] at h2
      refine ⟨x, y, .bl b, j2, m2, rv.ext e2, ru, wd2, congrArg (Option.map D.bl) e, fun z H' s hz => ?_⟩
      simp only [Rep] at hz
      refine ⟨b, hz, ?_⟩
      have h3 := h2 H' j2 (.of_same s) (wd2.same s)
      cases b with
      | false => exact ⟨false, rfl, Pst.ret h3 (wd2.same s)⟩
      | true =>
        refine ⟨r, m2, j2, ((rs.ext e1).ext e2).ext (.of_same s), wd2.same s, (Pst.bnd h3).mono fun z m3 H3 j3 e3 wd3 h3 t rt => ?_⟩
        unfold cmpM at h3
        cases e' : cmpD m3 p y z with
        | none => rw [e'] at h3; exact h3.elim
        | some b' =>
          rw [e'] at h3
          exact ⟨y, z, .bl b', j3, m3, (ru.ext (.of_same s)).ext e3, rt, wd3, congrArg (Option.map D.bl) e', fun z H' s hz => by
            simp only [Rep] at hz
            exact ⟨b', hz, h3 H' j3 (.of_same s) (wd3.same s)⟩⟩
/-! and, or, not -/
theorem s_and1 {a : Expr} {a' : E} {o : BoolOp} (ha : PE X a (tE cA X.K X.w W (ev cl C a'))) : PE X (.BoolOp o [a] pos) (tE cA X.K X.w W (evA cl C (.c a' .n))) :=
  PE.as (pe_one ha) fun r m => by simp only [evA]
theorem s_or1 {a : Expr} {a' : E} {o : BoolOp} (ha : PE X a (tE cA X.K X.w W (ev cl C a'))) : PE X (.BoolOp o [a] pos) (tE cA X.K X.w W (evO cl C (.c a' .n))) :=
  PE.as (pe_one ha) fun r m => by simp only [evO]
theorem s_andc {a b : Expr} {rest : List Expr} {a' b' : E} {r' : Es} (ha : PE X a (tE cA X.K X.w W (ev cl C a'))) (hb : PE X (.BoolOp .And (b :: rest) pos) (tE cA X.K X.w W (evA cl C (.c b' r')))) :
    PE X (.BoolOp .And (a :: b :: rest) pos) (tE cA X.K X.w W (evA cl C (.c a' (.c b' r')))) :=
  (pe_and ha hb).imp fun σ H Q ⟨r, m, j, rs, wd, h⟩ => by
    unfold evA at h
    refine ⟨r, m, j, rs, wd, (Pst.bnd h).mono fun x m1 H1 j1 e1 wd1 h1 v rv => ?_⟩
    split at h1
    · simp only [Rep] at rv
      exact ⟨true, rv, r, m1, j1, rs.ext e1, wd1, h1⟩
    · simp only [Rep] at rv
      exact ⟨false, rv, Pst.ret h1 wd1 _ (by simp only [Rep])⟩
    · exact h1.elim
theorem s_orc {a b : Expr} {rest : List Expr} {a' b' : E} {r' : Es} (ha : PE X a (tE cA X.K X.w W (ev cl C a'))) (hb : PE X (.BoolOp .Or (b :: rest) pos) (tE cA X.K X.w W (evO cl C (.c b' r')))) :
    PE X (.BoolOp .Or (a :: b :: rest) pos) (tE cA X.K X.w W (evO cl C (.c a' (.c b' r')))) :=
  (pe_or ha hb).imp fun σ H Q ⟨r, m, j, rs, wd, h⟩ => by
    unfold evO at h
    refine ⟨r, m, j, rs, wd, (Pst.bnd h).mono fun x m1 H1 j1 e1 wd1 h1 v rv => ?_⟩
    split at h1
    · simp only [Rep] at rv
      exact ⟨false, rv, r, m1, j1, rs.ext e1, wd1, h1⟩
    · simp only [Rep] at rv
      exact ⟨true, rv, Pst.ret h1 wd1 _ (by simp only [Rep])⟩
    · exact h1.elim
theorem s_and {e : Expr} {es : Es} (h : PE X e (tE cA X.K X.w W (evA cl C es))) : PE X e (tE cA X.K X.w W (ev cl C (.and es))) := PE.as h fun r m => by simp only [ev]
theorem s_or {e : Expr} {es : Es} (h : PE X e (tE cA X.K X.w W (evO cl C es))) : PE X e (tE cA X.K X.w W (ev cl C (.or es))) := PE.as h fun r m => by simp only [ev]
theorem s_not {a : Expr} {a' : E} (ha : PE X a (tE cA X.K X.w W (ev cl C a'))) : PE X (.UnaryOp .Not a pos) (tE cA X.K X.w W (ev cl C (.not a'))) :=
  (pe_not ha).imp fun σ H Q ⟨r, m, j, rs, wd, h⟩ => by
    simp only [ev] at h
    refine ⟨r, m, j, rs, wd, (Pst.bnd h).mono fun x m1 H1 j1 e1 wd1 h1 v rv => ?_⟩
    split at h1
    · rename_i b
      simp only [Rep] at rv
      exact ⟨b, rv, Pst.ret h1 wd1 _ (by simp only [Rep])⟩
    · exact h1.elim
theorem w_and1 {a : Expr} {a' : E} (ha : PT X a (tT cA X.K X.w W (evT cl C a'))) : PW X (.BoolOp .And [a] pos) (tT cA X.K X.w W (evA1 cl C (.c a' .n))) :=
  (pw_and1 ha).imp fun σ H Q ⟨r, m, j, rs, wd, h⟩ => by
    simp only [evA1] at h
    refine ⟨r, m, j, rs, wd, (Pst.bnd h).mono fun x m1 H1 j1 e1 wd1 h1 => ?_⟩
    cases x <;> exact Pst.ret h1 wd1
theorem w_andc {a b : Expr} {rest : List Expr} {a' : E} {r' : Es} (ha : PT X a (tT cA X.K X.w W (evT cl C a'))) (hb : PW X (.BoolOp .And (b :: rest) pos) (tT cA X.K X.w W (evA1 cl C r'))) :
    PW X (.BoolOp .And (a :: b :: rest) pos) (tT cA X.K X.w W (evA1 cl C (.c a' r'))) :=
  (pw_and ha hb).imp fun σ H Q ⟨r, m, j, rs, wd, h⟩ => by
    unfold evA1 at h
    refine ⟨r, m, j, rs, wd, (Pst.bnd h).mono fun x m1 H1 j1 e1 wd1 h1 => ?_⟩
    cases x with
    | true => exact ⟨r, m1, j1, rs.ext e1, wd1, h1⟩
    | false => exact Pst.ret h1 wd1
theorem w_or1 {a : Expr} {a' : E} (ha : PT X a (tT cA X.K X.w W (evT cl C a'))) : PW X (.BoolOp .Or [a] pos) (tT cA X.K X.w W (evO1 cl C (.c a' .n))) :=
  (pw_or1 ha).imp fun σ H Q ⟨r, m, j, rs, wd, h⟩ => by
    simp only [evO1] at h
    refine ⟨r, m, j, rs, wd, (Pst.bnd h).mono fun x m1 H1 j1 e1 wd1 h1 => ?_⟩
    cases x <;> exact Pst.ret h1 wd1
theorem w_orc {a b : Expr} {rest : List Expr} {a' : E} {r' : Es} (ha : PT X a (tT cA X.K X.w W (evT cl C a'))) (hb : PW X (.BoolOp .Or (b :: rest) pos) (tT cA X.K X.w W (evO1 cl C r'))) :
    PW X (.BoolOp .Or (a :: b :: rest) pos) (tT cA X.K X.w W (evO1 cl C (.c a' r'))) :=
  (pw_or ha hb).imp fun σ H Q ⟨r, m, j, rs, wd, h⟩ => by
    unfold evO1 at h
    refine ⟨r, m, j, rs, wd, (Pst.bnd h).mono fun x m1 H1 j1 e1 wd1 h1 => ?_⟩
    cases x with
    | false => exact ⟨r, m1, j1, rs.ext e1, wd1, h1⟩
    | true => exact Pst.ret h1 wd1
theorem t_and {e : Expr} {es : Es} (h : PW X e (tT cA X.K X.w W (evA1 cl C es))) : PT X e (tT cA X.K X.w W (evT cl C (.and es))) := PT.as h.pt fun r m => by simp only [evT]
theorem t_or {e : Expr} {es : Es} (h : PW X e (tT cA X.K X.w W (evO1 cl C es))) : PT X e (tT cA X.K X.w W (evT cl C (.or es))) := PT.as h.pt fun r m => by simp only [evT]
theorem t_not {a : Expr} {a' : E} (ha : PT X a (tT cA X.K X.w W (evT cl C a'))) : PT X (.UnaryOp .Not a pos) (tT cA X.K X.w W (evT cl C (.not a'))) :=
  (pt_not ha).imp fun σ H Q ⟨r, m, j, rs, wd, h⟩ => by
    simp only [evT] at h
    refine ⟨r, m, j, rs, wd, (Pst.bnd h).mono fun x m1 H1 j1 e1 wd1 h1 => ?_⟩
    exact Pst.ret h1 wd1
theorem s_ite {t a b : Expr} {t' a' b' : E} (ht : PT X t (tT cA X.K X.w W (evT cl C t'))) (ha : PE X a (tE cA X.K X.w W (ev cl C a'))) (hb : PE X b (tE cA X.K X.w W (ev cl C b'))) : PE X (.IfExp t a b pos) (tE cA X.K X.w W (ev cl C (.ite t' a' b'))) :=
  (pe_ifExp ht ha hb).imp fun σ H Q ⟨r, m, j, rs, wd, h⟩ => by
    simp only [ev] at h
    refine ⟨r, m, j, rs, wd, (Pst.bnd h).mono fun x m1 H1 j1 e1 wd1 h1 => ?_⟩
    cases x with
    | true => exact ⟨r, m1, j1, rs.ext e1, wd1, h1⟩
    | false => exact ⟨r, m1, j1, rs.ext e1, wd1, h1⟩
/-! truth of a value -/
theorem tru_rep {K : PySem.W.Frag} {w : World} {H : Hp} {j : J} {m : Sto} {d : D} {v : V} {b : Bool} (wd : Wd K w H j m) (h : Rep K w H j d v) (e : truD m d = some b) : TruV K v H b := by
  have its : ∀ {xs : List D} {d : D} {v : V}, Rep K w H j d v → items m d = some xs → ∃ a, v = .ref a ∧ TruV K (.ref a) H (!xs.isEmpty) := fun {xs d v} h e => by
    have lt : ∀ {vs : List V}, RepL K w H j xs vs → (!xs.isEmpty) = !vs.isEmpty := fun {vs} rl => by
      have := rl.length
      cases xs <;> cases vs <;> first | rfl | (simp at this)
    cases d with
    | tup ys =>
      cases e
      simp only [Rep] at h
      obtain ⟨a, vs, rfl, q, rl⟩ := h
      exact ⟨a, rfl, .inr (.inl ⟨vs, tup_sq q, lt rl⟩)⟩
    | lst ys =>
      cases e
      simp only [Rep] at h
      obtain ⟨a, vs, rfl, q1, q2, rl⟩ := h
      exact ⟨a, rfl, .inl ⟨vs, .inl q2, lt rl⟩⟩
    | ref n =>
      simp only [items] at e
      simp only [Rep] at h
      obtain ⟨a, rfl, q⟩ := h
      split at e
      · rename_i ys hm
        cases e
        obtain ⟨vs, q1, q2⟩ := wd.at_ n a _ q hm
        exact ⟨a, rfl, .inl ⟨vs, .of q1, lt q2⟩⟩
      · cases e
    | _ => cases e
  cases d with
  | non => cases e; simp only [Rep] at h; subst h; rfl
  | bl k => cases e; simp only [Rep] at h; subst h; rfl
  | int i => cases e; simp only [Rep] at h; subst h; rfl
  | str y =>
    simp only [truD] at e
    simp only [Rep] at h; subst h
    split at e
    · rename_i hl; cases e; exact ⟨hl, rfl⟩
    · cases e
  | dct ks ds =>
    simp only [truD] at e
    cases e
    simp only [Rep] at h
    obtain ⟨a, vs, rfl, q1, q2, l, rl⟩ := h
    refine .inr (.inr ⟨_, q2, ?_⟩)
    cases ks <;> cases vs <;> first | rfl | (simp at l)
  | wdc ks ds => simp only [truD, items] at e; cases e
  | tup ys =>
    simp only [truD] at e
    cases e' : items m (.tup ys) with
    | none => rw [e'] at e; cases e
    | some xs => rw [e'] at e; cases e; obtain ⟨a, rfl, q⟩ := its h e'; exact q
  | lst ys =>
    simp only [truD] at e
    cases e' : items m (.lst ys) with
    | none => rw [e'] at e; cases e
    | some xs => rw [e'] at e; cases e; obtain ⟨a, rfl, q⟩ := its h e'; exact q
  | ref n =>
    simp only [truD] at e
    cases e' : items m (.ref n) with
    | none => rw [e'] at e; cases e
    | some xs => rw [e'] at e; cases e; obtain ⟨a, rfl, q⟩ := its h e'; exact q
theorem t_val {e : Expr} {e' : E} (h : PE X e (tE cA X.K X.w W (ev cl C e'))) (q : ∀ r m, evT cl C e' r m = ((ev cl C e' r).bnd truM) m)
    (he : ∀ whole, isTrue e X.env whole = (do let v ← whole; standAt e.pos; holding [v] (truthy v)) := by intro _; rfl) : PT X e (tT cA X.K X.w W (evT cl C e')) :=
  (pt_truth h he).imp fun σ H Q ⟨r, m, j, rs, wd, h⟩ => by
    rw [q] at h
    refine ⟨r, m, j, rs, wd, (Pst.bnd h).mono fun x m1 H1 j1 e1 wd1 h1 v rv => ?_⟩
    unfold truM at h1
    cases e : truD m1 x with
    | none => rw [e] at h1; exact h1.elim
    | some b => rw [e] at h1; exact ⟨b, tru_rep wd1 rv e, Pst.ok h1 wd1⟩
theorem t_loc {i : Nat} {e : Expr} (h : PE X e (tE cA X.K X.w W (ev cl C (.loc i)))) (he : ∀ whole, isTrue e X.env whole = (do let v ← whole; standAt e.pos; holding [v] (truthy v)) := by intro _; rfl) : PT X e (tT cA X.K X.w W (evT cl C (.loc i))) :=
  t_val h (fun r m => by
    simp only [ev, evT]
    cases e : r[i]? with
    | none => rfl
    | some o => cases o <;> rfl) he
theorem t_call {f : Nat} {es : Es} {e : Expr} (h : PE X e (tE cA X.K X.w W (ev cl C (.call f es)))) (he : ∀ whole, isTrue e X.env whole = (do let v ← whole; standAt e.pos; holding [v] (truthy v)) := by intro _; rfl) : PT X e (tT cA X.K X.w W (evT cl C (.call f es))) :=
  t_val h (fun r m => by simp only [ev, evT]) he
theorem t_blt {b : Blt} {es : Es} {e : Expr} (h : PE X e (tE cA X.K X.w W (ev cl C (.blt b es)))) (he : ∀ whole, isTrue e X.env whole = (do let v ← whole; standAt e.pos; holding [v] (truthy v)) := by intro _; rfl) : PT X e (tT cA X.K X.w W (evT cl C (.blt b es))) :=
  t_val h (fun r m => by simp only [ev, evT]) he
theorem t_isi {a : E} {t : Ty} {e : Expr} (h : PE X e (tE cA X.K X.w W (ev cl C (.isi a t)))) (he : ∀ whole, isTrue e X.env whole = (do let v ← whole; standAt e.pos; holding [v] (truthy v)) := by intro _; rfl) : PT X e (tT cA X.K X.w W (evT cl C (.isi a t))) :=
  t_val h (fun r m => by
    simp only [ev, evT, M.bnd]
    cases ev cl C a r m <;> rfl) he
/-! subscripts -/
theorem s_sub {a b : Expr} {a' b' : E} (k : Kit X W) (ha : PE X a (tE cA X.K X.w W (ev cl C a'))) (hb : PE X b (tE cA X.K X.w W (ev cl C b'))) (hs : PlainIx b := by intro _ _; rfl) : PE X (.Subscript a b pos) (tE cA X.K X.w W (ev cl C (.sub a' b'))) :=
  (pe_ix (sub_ok k.gx) ha hb hs).imp fun σ H Q ⟨r, m, j, rs, wd, h⟩ => by
    simp only [ev] at h
    refine ⟨r, m, j, rs, wd, (Pst.bnd h).mono fun x m1 H1 j1 e1 wd1 h1 v rv => ?_⟩
    refine ⟨r, m1, j1, rs.ext e1, wd1, (Pst.bnd h1).mono fun y m2 H2 j2 e2 wd2 h2 u ru => ?_⟩
    obtain ⟨d, e, h2⟩ := h2.optM
    exact ⟨x, y, d, j2, m2, rv.ext e2, ru, wd2, e, fun z H' s hz => h2 H' j2 (.of_same s) (wd2.same s) z hz⟩
theorem o_no : PO X none (tO' cA X.K X.w W (evo cl C .no)) := po_none.imp fun σ H Q ⟨r, m, j, rs, wd, h⟩ => by
  simp only [evo] at h
  exact Pst.ret h wd
theorem o_so {e : Expr} {e' : E} (h : PE X e (tE cA X.K X.w W (ev cl C e'))) : PO X (some e) (tO' cA X.K X.w W (evo cl C (.so e'))) := (po_some h).imp fun σ H Q ⟨r, m, j, rs, wd, h⟩ => by
  simp only [evo] at h
  refine ⟨r, m, j, rs, wd, (Pst.bnd h).mono fun x m1 H1 j1 e1 wd1 h1 v rv => ?_⟩
  split at h1
  · rename_i i
    simp only [Rep] at rv
    exact ⟨i, rv, Pst.ret h1 wd1⟩
  · exact h1.elim
theorem s_sli {e : Expr} {lo hi : Option Expr} {e' : E} {lo' hi' : OE} {p2 : Pos} (he : PE X e (tE cA X.K X.w W (ev cl C e'))) (hl : PO X lo (tO' cA X.K X.w W (evo cl C lo'))) (hh : PO X hi (tO' cA X.K X.w W (evo cl C hi'))) :
    PE X (.Subscript e (.Slice lo hi none p2) pos) (tE cA X.K X.w W (ev cl C (.sli e' lo' hi'))) :=
  (pe_slice sli_ok he hl hh).imp fun σ H Q ⟨r, m, j, rs, wd, h⟩ => by
    simp only [ev] at h
    refine ⟨r, m, j, rs, wd, (Pst.bnd h).mono fun x m1 H1 j1 e1 wd1 h1 v rv => ?_⟩
    refine ⟨r, m1, j1, rs.ext e1, wd1, (Pst.bnd h1).mono fun l m2 H2 j2 e2 wd2 h2 => ?_⟩
    refine ⟨r, m2, j2, (rs.ext e1).ext e2, wd2, (Pst.bnd h2).mono fun u m3 H3 j3 e3 wd3 h3 => ?_⟩
    obtain ⟨d, e, h3⟩ := h3.optM
    exact ⟨x, d, j3, m3, (rv.ext e2).ext e3, wd3, e, fun z H' s hz => h3 H' j3 (.of_same s) (wd3.same s) z hz⟩
end
end Mp
end
section -- MpC2
set_option Elab.async false
set_option linter.all false
set_option maxRecDepth 100000
set_option maxHeartbeats 4000000
/-! Mp, part C2: dicts as rows of keys and values. -/
namespace Mp
open PySem L2 PyProof.Rows
/-! dicts as rows -/
def putV : List Key → List V → Key → V → List V
  | k :: ks, v :: vs, q, x => if k = q then x :: vs else v :: putV ks vs q x
  | _, _, _, x => [x]
def keyP : List Key → Key → List Key
  | k :: ks, q => if k = q then k :: ks else k :: keyP ks q
  | [], q => [q]
theorem keyP_mem {q : Key} : ∀ {ks : List Key} {k : Key}, k ∈ keyP ks q → k ∈ ks ∨ k = q
  | [], k, h => .inr (List.mem_singleton.mp h)
  | k' :: ks, k, h => by
    unfold keyP at h
    split at h
    · exact .inl h
    · rcases List.mem_cons.mp h with rfl | h
      · exact .inl List.mem_cons_self
      · rcases keyP_mem h with h | h
        · exact .inl (List.mem_cons_of_mem _ h)
        · exact .inr h
theorem putK_keys : ∀ {ks : List Key} {ds : List D} {q : Key} {d : D}, ds.length = ks.length → (Mp.putK ks ds q d).1 = keyP ks q
  | [], [], q, d, _ => by simp [Mp.putK, keyP]
  | [], _ :: _, q, d, h => by simp at h
  | _ :: _, [], q, d, h => by simp at h
  | k :: ks, v :: ds, q, d, h => by
    have ih := putK_keys (ks := ks) (ds := ds) (q := q) (d := d) (by simpa using h)
    simp only [Mp.putK]
    by_cases e : k = q
    · simp [e, keyP]
    · simp only [e, if_false, ih, keyP]
theorem putK_len : ∀ {ks : List Key} {ds : List D} {q : Key} {d : D}, ds.length = ks.length → (Mp.putK ks ds q d).2.length = (Mp.putK ks ds q d).1.length
  | [], [], q, d, _ => rfl
  | [], _ :: _, q, d, h => by simp at h
  | _ :: _, [], q, d, h => by simp at h
  | k :: ks, v :: ds, q, d, h => by
    have ih := putK_len (ks := ks) (ds := ds) (q := q) (d := d) (by simpa using h)
    simp only [Mp.putK]
    split
    · simpa using h
    · simpa using ih
theorem rep_putV {K : PySem.W.Frag} {w : World} {H : Hp} {j : J} : ∀ {ks : List Key} {ds : List D} {vs : List V} {q : Key} {d : D} {x : V}, RepL K w H j ds vs → Rep K w H j d x → RepL K w H j (Mp.putK ks ds q d).2 (putV ks vs q x)
  | [], ds, vs, q, d, x, h, hx => by
    have : (Mp.putK [] ds q d).2 = [d] := by cases ds <;> rfl
    rw [this]
    exact RepL.cons hx .nil
  | k :: ks, [], vs, q, d, x, h, hx => by
    simp only [RepL] at h; subst h
    exact RepL.cons hx .nil
  | k :: ks, e :: ds, vs, q, d, x, h, hx => by
    simp only [RepL] at h
    obtain ⟨v, r, rfl, h1, h2⟩ := h
    simp only [Mp.putK, putV]
    split
    · exact RepL.cons hx h2
    · exact RepL.cons h1 (rep_putV h2 hx)
theorem L2put_cons {k q : Key} {v x : V} {r : List (Key × V)} (h : k ≠ q) : L2.putK ((k, v) :: r) q x = (k, v) :: L2.putK r q x := by
  unfold L2.putK
  simp only [List.any_cons, decide_eq_false h, Bool.false_or]
  split
  · simp [h]
  · rfl
theorem L2put_same {q : Key} {v x : V} {r : List (Key × V)} (h : q ∉ r.map (·.1)) : L2.putK ((q, v) :: r) q x = (q, x) :: r := by
  unfold L2.putK
  rw [if_pos (by simp)]
  simp only [List.map_cons, if_true]
  congr 1
  refine (List.map_congr_left fun a ha => ?_).trans (List.map_id _)
  rw [if_neg]
  · rfl
  · rintro rfl
    exact h (List.mem_map.mpr ⟨a, ha, rfl⟩)
theorem zip_fst : ∀ {ks : List Key} {vs : List V}, ks.length = vs.length → (ks.zip vs).map (·.1) = ks
  | [], [], _ => rfl
  | [], _ :: _, h => by simp at h
  | _ :: _, [], h => by simp at h
  | k :: ks, v :: vs, h => by simp only [List.zip_cons_cons, List.map_cons, zip_fst (ks := ks) (vs := vs) (by simpa using h)]
theorem put_zip : ∀ {ks : List Key} {vs : List V} {q : Key} {x : V}, ks.Nodup → ks.length = vs.length → L2.putK (ks.zip vs) q x = (keyP ks q).zip (putV ks vs q x) ∧ (keyP ks q).length = (putV ks vs q x).length ∧ (keyP ks q).Nodup
  | [], [], q, x, _, _ => by simp [L2.putK, keyP, putV]
  | [], _ :: _, q, x, _, h => by simp at h
  | _ :: _, [], q, x, _, h => by simp at h
  | k :: ks, v :: vs, q, x, hn, hl => by
    have hl' : ks.length = vs.length := by simpa using hl
    obtain ⟨n1, n2⟩ := List.nodup_cons.mp hn
    by_cases e : k = q
    · subst e
      have kk : keyP (k :: ks) k = k :: ks := by simp [keyP]
      rw [kk, List.zip_cons_cons, L2put_same (by rw [zip_fst hl']; exact n1)]
      simp [putV, hl', hn]
    · obtain ⟨h1, h2, h3⟩ := put_zip (q := q) (x := x) n2 hl'
      have kk : keyP (k :: ks) q = k :: keyP ks q := by simp only [keyP, e, if_false]
      rw [kk, List.zip_cons_cons, L2put_cons e, h1]
      refine ⟨by simp [putV, e], by simp [putV, e, h2], List.nodup_cons.mpr ⟨fun z => ?_, h3⟩⟩
      rcases keyP_mem z with z | z
      · exact n1 z
      · exact e z
/-- all of the second put into the first -/
theorem merge_zip {K : PySem.W.Frag} {w : World} {H : Hp} {j : J} : ∀ {qs : List Key} {es : List D} {us : List V} {ks : List Key} {ds : List D} {vs : List V}, qs.length = us.length → RepL K w H j es us → ks.Nodup → ks.length = vs.length → RepL K w H j ds vs →
    ∃ xs, mergeK (ks.zip vs) (qs.zip us) = (putAllK ks ds qs es).1.zip xs ∧ (putAllK ks ds qs es).1.length = xs.length ∧ RepL K w H j (putAllK ks ds qs es).2 xs ∧ (putAllK ks ds qs es).1.Nodup
  | [], es, us, ks, ds, vs, _, _, hn, hl, hr => by
    cases es <;> exact ⟨vs, by simp [mergeK, putAllK], by simpa [putAllK] using hl, by simpa [putAllK] using hr, by simpa [putAllK] using hn⟩
  | q :: qs, [], us, ks, ds, vs, h, he, hn, hl, hr => by
    simp only [RepL] at he; subst he; simp at h
  | q :: qs, e :: es, us, ks, ds, vs, h, he, hn, hl, hr => by
    simp only [RepL] at he
    obtain ⟨x, us', rfl, h1, h2⟩ := he
    obtain ⟨g1, g2, g3⟩ := put_zip (q := q) (x := x) hn hl
    have hd : ds.length = ks.length := by rw [hr.length, hl]
    have kk := putK_keys (q := q) (d := e) hd
    have := merge_zip (qs := qs) (es := es) (us := us') (ks := keyP ks q) (ds := (Mp.putK ks ds q e).2) (vs := putV ks vs q x) (by simpa using h) h2 g3 g2 (rep_putV hr h1)
    obtain ⟨xs, q1, q2, q3, q4⟩ := this
    refine ⟨xs, ?_, ?_, ?_, ?_⟩
    · rw [List.zip_cons_cons]
      show mergeK (L2.putK (ks.zip vs) q x) (qs.zip us') = _
      rw [g1, q1]
      simp only [putAllK, kk]
    · simpa only [putAllK, kk] using q2
    · simpa only [putAllK, kk] using q3
    · simpa only [putAllK, kk] using q4
section
variable {X : Cx}
/-- o[i] = v, o a list or a dict -/
def rSet2 : TSet := fun o i v H Q => rSetL o i v H Q ∨ rSetD o i v H Q
theorem set_two (hu : X.A.units + 1 < cLine) : PSet X rSet2 := by
  intro pins s σ H o i v ov iv u Q I ro ri rv h
  rcases h with h | h
  · exact set_list pins s σ H o i v ov iv u Q I ro ri rv h
  · exact set_dict hu pins s σ H o i v ov iv u Q I ro ri rv h
end
end Mp
end
section -- MpG
set_option Elab.async false
set_option linter.all false
set_option maxRecDepth 100000
set_option maxHeartbeats 4000000
/-! Mp, part G: targets, statements, loops, comprehensions, defs. -/
namespace Mp
open PySem L2 PyProof.Rows

theorem wipe_other {σ : L2.St} {i : Nat} : ∀ {vs : List Nat}, i ∉ vs → (wipe σ vs)[i]? = σ[i]?
  | [], _ => rfl
  | v :: vs, h => by
    unfold wipe
    simp only [List.mem_cons, not_or] at h
    rw [List.getElem?_set_ne (fun e => h.1 e.symm), wipe_other h.2]
theorem wipe_in {σ : L2.St} {i : Nat} : ∀ {vs : List Nat}, i ∈ vs → i < σ.length → (wipe σ vs)[i]? = some none
  | [], h, _ => by simp at h
  | v :: vs, h, hl => by
    unfold wipe
    by_cases e : v = i
    · subst e
      rw [List.getElem?_set_self (by rw [wipe_length]; exact hl)]
    · rw [List.getElem?_set_ne e]
      exact wipe_in (by simpa [Ne.symm e] using h) hl
theorem wipe_eq {σ τ : L2.St} {vs : List Nat} (hl : σ.length = τ.length) (h : ∀ i, i ∉ vs → σ[i]? = τ[i]?) : wipe σ vs = wipe τ vs := by
  refine List.ext_getElem? fun i => ?_
  by_cases hi : i ∈ vs
  · by_cases hl' : i < σ.length
    · rw [wipe_in hi hl', wipe_in hi (by omega)]
    · rw [List.getElem?_eq_none (by rw [wipe_length]; omega), List.getElem?_eq_none (by rw [wipe_length]; omega)]
  · rw [wipe_other hi, wipe_other hi, h i hi]
theorem of_wipe {σ τ : L2.St} {vs : List Nat} (h : wipe σ vs = wipe τ vs) : σ.length = τ.length ∧ ∀ i, i ∉ vs → σ[i]? = τ[i]? := by
  refine ⟨by rw [← wipe_length σ vs, h, wipe_length], fun i hi => ?_⟩
  rw [← wipe_other hi, h, wipe_other hi]
section
variable {K : PySem.W.Frag} {w : World} {H : Hp} {j : J}
theorem RS.set {σ : L2.St} {r : Env} {i : Nat} {d : D} {v : V} (h : RS K w H j σ r) (hd : Rep K w H j d v) : RS K w H j (σ.set i (some v)) (r.set i (some d)) := by
  refine ⟨by rw [List.length_set, List.length_set, h.len], fun k e q => ?_⟩
  by_cases hk : i = k
  · subst hk
    by_cases hl : i < r.length
    · rw [List.getElem?_set_self hl] at q
      cases q
      exact ⟨v, by rw [List.getElem?_set_self (by rw [h.len]; exact hl)], hd⟩
    · rw [List.getElem?_eq_none (by rw [List.length_set]; omega)] at q; cases q
  · rw [List.getElem?_set_ne hk] at q
    obtain ⟨u, q1, q2⟩ := h.at_ k e q
    exact ⟨u, by rw [List.getElem?_set_ne hk]; exact q1, q2⟩
theorem wipeD_some {r : Env} {i : Nat} {d : D} : ∀ {vs : List Nat}, (wipeD r vs)[i]? = some (some d) → r[i]? = some (some d) ∧ i ∉ vs
  | [], h => ⟨h, by simp⟩
  | v :: vs, h => by
    unfold wipeD at h
    by_cases hi : v = i
    · subst hi
      by_cases hv : v < (wipeD r vs).length
      · rw [List.getElem?_set_self hv] at h; cases h
      · rw [List.getElem?_eq_none (by simpa using hv)] at h; cases h
    · rw [List.getElem?_set_ne hi] at h
      obtain ⟨h1, h2⟩ := wipeD_some h
      exact ⟨h1, by simp only [List.mem_cons, not_or]; exact ⟨fun e => hi e.symm, h2⟩⟩
theorem wipeD_length (r : Env) : ∀ vs : List Nat, (wipeD r vs).length = r.length
  | [] => rfl
  | v :: vs => by unfold wipeD; rw [List.length_set, wipeD_length r vs]
theorem RS.wipe {σ : L2.St} {r : Env} (h : RS K w H j σ r) (vs : List Nat) : RS K w H j (L2.wipe σ vs) (wipeD r vs) := by
  refine ⟨by rw [wipe_length, wipeD_length, h.len], fun i d q => ?_⟩
  obtain ⟨q1, q2⟩ := wipeD_some q
  obtain ⟨v, q3, q4⟩ := h.at_ i d q1
  exact ⟨v, by rw [wipe_other q2]; exact q3, q4⟩
end
section
variable {X : Cx} {cA : Nat → Addr} {W : XK} {pos : Pos} {cl : Nat → List D → M D} {C : List D}
/-! targets -/
theorem g_nm {i : Nat} {x : Str} (k : Kit X W) (hi : X.N[i]? = some x) (hx : Loc X.env.scope x) (hf : X.fn x = true ∨ X.env.scope.names.lookup x = some .local := by first | exact .inl rfl | exact .inr rfl) :
    PG X (.Name x pos) (tG cA X.K X.w W (Tg.nm i).slots (asT cl C (.nm i))) :=
  (pg_name k.nd hi hx hf).imp fun v σ H Q ⟨d, r, m, j, rd, rs, wd, h⟩ => by
    simp only [asT] at h
    obtain ⟨_, h⟩ := h.ite
    refine Pst.ret h wd _ (rs.set rd) ?_
    simp only [Tg.slots]
    refine wipe_eq (by rw [List.length_set]) fun i' hi' => ?_
    rw [List.getElem?_set_ne]
    simpa [eq_comm] using hi'
theorem g_tn : PGs X [] (tGs cA X.K X.w W Tgs.n.slots (asTs cl C .n)) := pgs_nil.imp fun v σ H Q ⟨d, r, m, j, rd, rs, wd, h⟩ => by
  cases d with
  | nil =>
    simp only [asTs] at h
    simp only [RepL] at rd
    exact ⟨rd, Pst.ret h wd _ rs rfl⟩
  | cons d ds => simp only [asTs] at h; exact h.elim
theorem g_tc {e : Expr} {es : List Expr} {t : Tg} {ts : Tgs} (h1 : PG X e (tG cA X.K X.w W t.slots (asT cl C t))) (h2 : PGs X es (tGs cA X.K X.w W ts.slots (asTs cl C ts)))
    (hs : (assignEach (e :: es) X.env).map (·.2) = assign e X.env :: (assignEach es X.env).map (·.2) := by rfl) : PGs X (e :: es) (tGs cA X.K X.w W (Tgs.c t ts).slots (asTs cl C (.c t ts))) :=
  (pgs_cons h1 h2 hs).imp fun vs σ H Q ⟨ds, r, m, j, rd, rs, wd, h⟩ => by
    cases ds with
    | nil => simp only [asTs] at h; exact h.elim
    | cons d ds =>
      simp only [asTs] at h
      simp only [RepL] at rd
      obtain ⟨v, vr, rfl, rv, rr⟩ := rd
      refine ⟨v, vr, rfl, d, r, m, j, rv, rs, wd, (Pst.bnd h).mono fun r1 m1 H1 j1 e1 wd1 h1 σ1 rs1 hw1 => ?_⟩
      refine ⟨ds, r1, m1, j1, rr.ext e1, rs1, wd1, h1.mono fun r2 m2 H2 j2 e2 wd2 h2 σ2 rs2 hw2 => h2 σ2 rs2 ?_⟩
      obtain ⟨l1, q1⟩ := of_wipe hw1
      obtain ⟨l2, q2⟩ := of_wipe hw2
      simp only [Tgs.slots]
      refine wipe_eq (l2.trans l1) fun i hi => ?_
      simp only [List.mem_append, not_or] at hi
      rw [q2 i hi.2, q1 i hi.1]
theorem g_tp {es : List Expr} {kk : Nat} {ts : Tgs} (k : Kit X W) (h : PGs X es (tGs cA X.K X.w W ts.slots (asTs cl C ts))) (hn : (assignEach es X.env).length = ts.len := by rfl) (hst : (assignEach es X.env).findIdx? (·.1) = none := by rfl) :
    PG X (.Tuple es kk pos) (tG cA X.K X.w W (Tg.tp ts).slots (asT cl C (.tp ts))) :=
  (pg_tup k.gx.calm h hn hst).imp fun v σ H Q ⟨d, r, m, j, rd, rs, wd, h⟩ => by
    cases d with
    | tup ds =>
      simp only [asT] at h
      obtain ⟨hl, h⟩ := h.ite
      simp only [Rep] at rd
      obtain ⟨a, vs, rfl, q, rl⟩ := rd
      refine ⟨a, vs, rfl, tup_sq q, by rw [← rl.length]; exact hl, ds, r, m, j, rl, rs, wd, ?_⟩
      simp only [Tg.slots] at h ⊢
      exact h
    | _ => simp only [asT] at h; exact h.elim
theorem g_sb {o i : Expr} {o' i' : E} (k : Kit X W) (ho : PE X o (tE cA X.K X.w W (ev cl C o'))) (hi : PE X i (tE cA X.K X.w W (ev cl C i')))
    (ha : ∀ v, assign (.Subscript o i pos) X.env v = (do
      let ov ← holding [v] (eval o X.env)
      let iv ← holding [v, ov] (eval i X.env)
      standAt pos
      holding [v, ov, iv] (setItem ov iv v)
      release [v, ov, iv] []) := by intro _; rfl) : PG X (.Subscript o i pos) (tG cA X.K X.w W (Tg.sb o' i').slots (asT cl C (.sb o' i'))) :=
  (pg_sub ho hi (set_two (by have := k.gx.un; omega)) ha).imp fun v σ H Q ⟨d, r, m, j, rd, rs, wd, h⟩ => by
    simp only [asT] at h
    refine ⟨r, m, j, rs, wd, (Pst.bnd h).mono fun x m1 H1 j1 e1 wd1 h1 u ru => ?_⟩
    refine ⟨r, m1, j1, rs.ext e1, wd1, (Pst.bnd h1).mono fun y m2 H2 j2 e2 wd2 h2 z rz => ?_⟩
    have ru2 := ru.ext e2
    have rd2 := (rd.ext e1).ext e2
    replace h2 := Pst.bnd h2
    unfold setD at h2
    split at h2
    · rename_i n
      simp only [Rep] at ru2
      obtain ⟨a, rfl, hj⟩ := ru2
      have mem := List.mem_of_getElem? hj
      split at h2
      · rename_i xs hm
        split at h2
        · rename_i kk
          simp only [Rep] at rz
          split at h2
          · rename_i q hq
            obtain ⟨vs, q1, q2⟩ := wd2.at_ n a _ hj hm
            refine .inl ⟨a, vs, kk, q, rfl, rz, q1, by rw [← q2.length]; exact hq, ?_⟩
            obtain ⟨e3, wd3⟩ := wd2.put (o := .lst (vs.set q v)) (c := .lst (xs.set q d)) q1 no_lst hj ⟨vs.set q v, upd_same, (q2.set q rd2).wx ⟨⟨[], by simp⟩, fun b u hb q => by rw [upd_ne (fun z => hb (by rw [z]; exact .inl mem))]; exact q, fun b hb => .inl hb, frz_upd q1 no_lst⟩⟩
            exact Pst.ret (h2 _ _ e3 wd3) wd3 _ (((rs.ext e1).ext e2).ext e3) rfl
          · exact h2.elim
        · exact h2.elim
      · rename_i ks vs hm
        split at h2
        · rename_i q hq
          split at h2
          · rename_i hz
            obtain ⟨us, q1, hl, q2, nd⟩ := wd2.at_ n a _ hj hm
            have ek := dKey_rep hq rz
            obtain ⟨g1, g2, g3⟩ := put_zip (q := q) (x := v) nd hl
            have kk := putK_keys (q := q) (d := d) (ks := ks) (ds := vs) (by rw [q2.length, hl])
            refine .inr ⟨a, _, rfl, .inl ⟨ks.zip us, q, q1, ek, by simpa [hl] using hz, rfl⟩, ?_⟩
            have rp := rep_putV (q := q) (ks := ks) q2 rd2
            obtain ⟨e3, wd3⟩ := wd2.put (o := .dK (L2.putK (ks.zip us) q v)) (c := .dct (Mp.putK ks vs q d).1 (Mp.putK ks vs q d).2) q1 no_dK hj ⟨putV ks us q v, by rw [upd_same, g1, kk], by rw [kk]; exact g2, rp.wx ⟨⟨[], by simp⟩, fun b u hb q => by rw [upd_ne (fun z => hb (by rw [z]; exact .inl mem))]; exact q, fun b hb => .inl hb, frz_upd q1 no_dK⟩, by rw [kk]; exact g3⟩
            exact Pst.ret (h2 _ _ e3 wd3) wd3 _ (((rs.ext e1).ext e2).ext e3) rfl
          · exact h2.elim
        · exact h2.elim
      · exact h2.elim
    · exact h2.elim
theorem ss_nil : PSs X [] (tS cA X.K X.w W (exs cl C .n)) := pss_nil.imp fun B σ H ⟨r, m, j, rs, wd, h⟩ => by
  simp only [exs] at h
  exact Pst.ret h wd σ rs
theorem ss_cons {s : Stmt} {rest : List Stmt} {s' : S} {rest' : Ss} (h1 : PS X s (tS cA X.K X.w W (ex cl C s'))) (h2 : PSs X rest (tS cA X.K X.w W (exs cl C rest'))) : PSs X (s :: rest) (tS cA X.K X.w W (exs cl C (.c s' rest'))) :=
  (pss_cons h1 h2).imp fun B σ H ⟨r, m, j, rs, wd, h⟩ => by
    simp only [exs] at h
    refine ⟨r, m, j, rs, wd, (Pst.bnd h).mono fun f m1 H1 j1 e1 wd1 h1 => ?_⟩
    cases f with
    | nx r1 => exact fun σ1 rs1 => ⟨r1, m1, j1, rs1, wd1, h1⟩
    | rt d => exact Pst.ret h1 wd1
    | bk r1 => exact Pst.ret h1 wd1
    | ct r1 => exact Pst.ret h1 wd1
theorem s_asg {tg e : Expr} {t' : Tg} {e' : E} (he : PE X e (tE cA X.K X.w W (ev cl C e'))) (hg : PG X tg (tG cA X.K X.w W t'.slots (asT cl C t'))) (hs : swapsWithSole [tg] e pos.line X.env = pure false := by rfl) (hw : swappedStores [tg] e X.env = pure none := by rfl)
    (h1 : (assignEach [tg] X.env).map (·.2) = [assign tg X.env] := by rfl) : PS X (.Assign [tg] e pos) (tS cA X.K X.w W (ex cl C (.asg t' e'))) :=
  (ps_asg he hg hs hw h1).imp fun B σ H ⟨r, m, j, rs, wd, h⟩ => by
    simp only [ex] at h
    refine ⟨r, m, j, rs, wd, (Pst.bnd h).mono fun d m1 H1 j1 e1 wd1 h1 v rv => ?_⟩
    refine ⟨d, r, m1, j1, rv, rs.ext e1, wd1, (Pst.bnd h1).mono fun r2 m2 H2 j2 e2 wd2 h2 σ2 rs2 _ => ?_⟩
    exact Pst.ret h2 wd2 σ2 rs2
theorem RepL.two' {K : PySem.W.Frag} {w : World} {H : Hp} {j : J} {d e : D} {vs : List V} (h : RepL K w H j [d, e] vs) : ∃ v u, vs = [v, u] ∧ Rep K w H j d v ∧ Rep K w H j e u := h.two
theorem s_par {i j : Nat} {x y : Str} {a b : Expr} {a' b' : E} {px py pt : Pos} {kt k2 pt2} (k : Kit X W) (hi : X.N[i]? = some x) (hj : X.N[j]? = some y) (hij : i ≠ j)
    (hx : X.env.scope.names.lookup x = some .local) (hy : X.env.scope.names.lookup y = some .local) (ha : PA X [a, b] (tL cA X.K X.w W (evs cl C (.c a' (.c b' .n)))))
    (hw : swappedStores [.Tuple [.Name x px, .Name y py] kt pt] (.Tuple [a, b] k2 pt2) X.env = pure (some [x, y]))
    (hs : swapsWithSole [.Tuple [.Name x px, .Name y py] kt pt] (.Tuple [a, b] k2 pt2) pos.line X.env = pure false := by rfl) :
    PS X (.Assign [.Tuple [.Name x px, .Name y py] kt pt] (.Tuple [a, b] k2 pt2) pos) (tS cA X.K X.w W (ex cl C (.asg (.tp (.c (.nm i) (.c (.nm j) .n))) (.tup (.c a' (.c b' .n)))))) :=
  (ps_par k.gx.calm k.nd hi hj hij hx hy ha hw hs).imp fun B σ H ⟨r, m, jj, rs, wd, h⟩ => by
    simp only [ex, ev] at h
    refine ⟨r, m, jj, rs, wd, (Pst.bnd (Pst.bnd h)).mono fun ds m1 H1 j1 e1 wd1 h1 vs rv => ?_⟩
    obtain ⟨_, h1⟩ := h1.ite
    have h2 := Pst.ret h1 wd1
    simp only [asT] at h2
    replace h2 := Pst.bnd h2
    obtain ⟨hl, h2⟩ := h2.ite
    match ds, vs, rv, h2 with
    | [], _, _, h2 => simp only [asTs] at h2; exact h2.elim
    | [_], _, _, h2 => simp [Tgs.len] at hl
    | [d, e], _, rv, h2 =>
      obtain ⟨v, u, rfl, q1, q2⟩ := rv.two
      refine ⟨v, u, rfl, ?_⟩
      simp only [asTs, asT] at h2
      replace h2 := Pst.bnd h2
      obtain ⟨_, h2⟩ := h2.ite
      replace h2 := Pst.bnd (Pst.ret h2 wd1)
      obtain ⟨_, h2⟩ := h2.ite
      replace h2 := Pst.ret (Pst.ret h2 wd1) wd1
      exact Pst.ret h2 wd1 _ (((rs.ext e1).set q1).set q2)
    | _ :: _ :: _ :: _, _, _, h2 => simp [Tgs.len] at hl
theorem s_exp {e : Expr} {e' : E} (he : PE X e (tE cA X.K X.w W (ev cl C e'))) (hs : swapsWith e none pos.line X.env = pure false := by rfl) : PS X (.Expr e pos) (tS cA X.K X.w W (ex cl C (.exp e'))) :=
  (ps_expr he hs).imp fun B σ H ⟨r, m, j, rs, wd, h⟩ => by
    simp only [ex] at h
    exact ⟨r, m, j, rs, wd, (Pst.bnd h).mono fun d m1 H1 j1 e1 wd1 h1 v rv => Pst.ret h1 wd1 σ (rs.ext e1)⟩
theorem s_ret {e : Expr} {e' : E} (he : PE X e (tE cA X.K X.w W (ev cl C e'))) : PS X (.Return (some e) pos) (tS cA X.K X.w W (ex cl C (.ret e'))) :=
  (ps_ret he).imp fun B σ H ⟨r, m, j, rs, wd, h⟩ => by
    simp only [ex] at h
    exact ⟨r, m, j, rs, wd, (Pst.bnd h).mono fun d m1 H1 j1 e1 wd1 h1 v rv => Pst.ret h1 wd1 v rv⟩
theorem s_retn : PS X (.Return none pos) (tS cA X.K X.w W (ex cl C .retn)) :=
  ps_retN.imp fun B σ H ⟨r, m, j, rs, wd, h⟩ => by
    simp only [ex] at h
    exact Pst.ret h wd .non (by simp only [Rep])
theorem s_iff {c : Expr} {a b : List Stmt} {c' : E} {a' b' : Ss} (hc : PT X c (tT cA X.K X.w W (evT cl C c'))) (ha : PSs X a (tS cA X.K X.w W (exs cl C a'))) (hb : PSs X b (tS cA X.K X.w W (exs cl C b'))) :
    PS X (.If c a b pos) (tS cA X.K X.w W (ex cl C (.iff c' a' b'))) :=
  (ps_if hc ha hb).imp fun B σ H ⟨r, m, j, rs, wd, h⟩ => by
    simp only [ex] at h
    refine ⟨r, m, j, rs, wd, (Pst.bnd h).mono fun x m1 H1 j1 e1 wd1 h1 => ?_⟩
    cases x with
    | true => exact ⟨r, m1, j1, rs.ext e1, wd1, h1⟩
    | false => exact ⟨r, m1, j1, rs.ext e1, wd1, h1⟩
theorem s_pas : PS X (.Pass pos) (tS cA X.K X.w W (ex cl C .pas)) := ps_pass.imp fun B σ H ⟨r, m, j, rs, wd, h⟩ => by
  simp only [ex] at h
  exact Pst.ret h wd σ rs
theorem s_brk : PS X (.Break pos) (tS cA X.K X.w W (ex cl C .brk)) := ps_break.imp fun B σ H ⟨r, m, j, rs, wd, h⟩ => by
  simp only [ex] at h
  exact Pst.ret h wd σ rs
theorem s_cnt : PS X (.Continue pos) (tS cA X.K X.w W (ex cl C .cnt)) := ps_continue.imp fun B σ H ⟨r, m, j, rs, wd, h⟩ => by
  simp only [ex] at h
  exact Pst.ret h wd σ rs
end
/-! ### iterators -/
/-- it yields xs in order -/
def Yields (K : PySem.W.Frag) (w : World) (T : L2.It) (H : Hp) (j : J) (xs : List D) : Prop :=
  (∀ i x, xs[i]? = some x → T.go i H ∧ ∀ v H', T.yld i H v H' → Same H H' ∧ Rep K w H' j x v) ∧ ∀ i, xs.length ≤ i → T.stop i H
def ItOk (K : PySem.W.Frag) (w : World) (H : Hp) (j : J) : Wk → L2.It → Prop
  | .its xs, T => ∀ H2 j2 m2, Wx H j H2 j2 → Wd K w H2 j2 m2 → Yields K w T H2 j2 xs
  | .live n, T => ∀ H2 j2 m2, Wx H j H2 j2 → Wd K w H2 j2 m2 → ∀ xs, m2[n]? = some (.lst xs) → Yields K w T H2 j2 xs
def tI (cA : Nat → Addr) (K : PySem.W.Frag) (w : World) (W : XK) (f : Env → M Wk) : TI := fun σ H R => ∃ r m j, RS K w H j σ r ∧ Wd K w H j m ∧ Pst cA K w W H j (fun wk _ H' j' => ∀ T, ItOk K w H' j' wk T → R T H') (f r m)
section
variable {X : Cx} {cA : Nat → Addr} {W : XK} {pos : Pos} {cl : Nat → List D → M D} {C : List D}
theorem s_for {tg iter : Expr} {body : List Stmt} {t' : Tg} {i' : Mp.It} {b' : Ss} (hp : PassesOwn (model X.prog X.w) X.A X.env X.xe) (k : Kit X W) (hi : PI X tg iter (tI cA X.K X.w W (evi cl C i'))) (hg : PG X tg (tG cA X.K X.w W t'.slots (asT cl C t'))) (hb : PSs X body (tS cA X.K X.w W (exs cl C b')))
    (hs : ∀ x, foldedSetIterable iter X.env x = pure x := by intro _; rfl) : PS X (.For tg iter body [] pos) (tS cA X.K X.w W (ex cl C (.fr t' i' b'))) :=
  (ps_for hp k.gx.calm hi hg hb hs).imp fun B σ H ⟨r, m, j, rs, wd, h⟩ => by
    simp only [ex] at h
    refine ⟨r, m, j, rs, wd, (Pst.bnd h).mono fun wk m1 H1 j1 e1 wd1 h1 T hT => ?_⟩
    have rs1 := rs.ext e1
    cases wk with
    | its xs =>
      simp only [forW] at h1
      refine ⟨fun i μ σ H => μ = xs.length - i ∧ i ≤ xs.length ∧ ∃ r st j', RS X.K X.w H j' σ r ∧ Wd X.K X.w H j' st ∧ Ext H1 j1 H j' ∧ Pst cA X.K X.w W H j' (fun b _ H' j' => endK X.K X.w B b H' j') (forL (fun x r1 => (asT cl C t' x r1).bnd fun r2 => exs cl C b' r2) (xs.drop i) r st),
        ⟨xs.length, by simp, Nat.zero_le _, r, m1, j1, rs1, wd1, .refl, by rw [List.drop_zero]; exact h1⟩, ?_⟩
      rintro i μ σ H ⟨rfl, hi, r, st, j', rs, wd, e, h⟩
      obtain ⟨y1, y2⟩ := hT H j' st e.toWx wd
      by_cases hlt : i < xs.length
      · obtain ⟨go, yld⟩ := y1 i xs[i] (by simp [hlt])
        rw [List.drop_eq_getElem_cons hlt] at h
        simp only [forL] at h
        refine .inr ⟨go, _, fun σ' H' n => ⟨xs.length - (i + 1), by omega, n⟩, fun v H' y => ?_⟩
        obtain ⟨sm, rv⟩ := yld v H' y
        refine ⟨xs[i], r, st, j', rv, rs.ext (.of_same sm), wd.same sm, (Pst.bnd (Pst.bnd (h.ext (.of_same sm)))).mono fun r2 m2 H2 j2 e2 wd2 h2 σ2 rs2 _ => ?_⟩
        refine ⟨r2, m2, j2, rs2, wd2, h2.mono fun f m3 H3 j3 e3 wd3 h3 => ?_⟩
        have e' : Ext H1 j1 H3 j3 := ((e.trans (.of_same sm)).trans e2).trans e3
        cases f with
        | nx r3 => exact fun σ3 rs3 => ⟨rfl, hlt, r3, m3, j3, rs3, wd3, e', h3⟩
        | ct r3 => exact fun σ3 rs3 => ⟨rfl, hlt, r3, m3, j3, rs3, wd3, e', h3⟩
        | bk r3 => exact fun σ3 rs3 => Pst.ret h3 wd3 σ3 rs3
        | rt d => exact fun v rv => Pst.ret h3 wd3 v rv
      · have e2 : i = xs.length := by omega
        subst e2
        rw [List.drop_length] at h
        exact .inl ⟨y2 _ (Nat.le_refl _), Pst.ret h wd σ rs⟩
    | live n =>
      simp only [forW] at h1
      refine ⟨fun i μ σ H => ∃ r st j', RS X.K X.w H j' σ r ∧ Wd X.K X.w H j' st ∧ Ext H1 j1 H j' ∧ Pst cA X.K X.w W H j' (fun b _ H' j' => endK X.K X.w B b H' j') (forR (fun x r1 => (asT cl C t' x r1).bnd fun r2 => exs cl C b' r2) n μ i r st), ?_, ?_⟩
      · split at h1
        · exact ⟨_, r, m1, j1, rs1, wd1, .refl, h1⟩
        · exact h1.elim
      · rintro i μ σ H ⟨r, st, j', rs, wd, e, h⟩
        cases μ with
        | zero => exact h.elim
        | succ μ =>
          simp only [forR] at h
          split at h
          · rename_i xs hm
            obtain ⟨y1, y2⟩ := hT H j' st e.toWx wd xs hm
            split at h
            · rename_i x hx
              obtain ⟨go, yld⟩ := y1 i x hx
              refine .inr ⟨go, fun σ H => ∃ r st j', RS X.K X.w H j' σ r ∧ Wd X.K X.w H j' st ∧ Ext H1 j1 H j' ∧ Pst cA X.K X.w W H j' (fun b _ H' j' => endK X.K X.w B b H' j') (forR (fun x r1 => (asT cl C t' x r1).bnd fun r2 => exs cl C b' r2) n μ (i + 1) r st), fun σ' H' n => ⟨μ, Nat.lt_succ_self _, n⟩, fun v H' y => ?_⟩
              obtain ⟨sm, rv⟩ := yld v H' y
              refine ⟨x, r, st, j', rv, rs.ext (.of_same sm), wd.same sm, (Pst.bnd (Pst.bnd (h.ext (.of_same sm)))).mono fun r2 m2 H2 j2 e2 wd2 h2 σ2 rs2 _ => ?_⟩
              refine ⟨r2, m2, j2, rs2, wd2, h2.mono fun f m3 H3 j3 e3 wd3 h3 => ?_⟩
              have e' : Ext H1 j1 H3 j3 := ((e.trans (.of_same sm)).trans e2).trans e3
              cases f with
              | nx r3 => exact fun σ3 rs3 => ⟨r3, m3, j3, rs3, wd3, e', h3⟩
              | ct r3 => exact fun σ3 rs3 => ⟨r3, m3, j3, rs3, wd3, e', h3⟩
              | bk r3 => exact fun σ3 rs3 => Pst.ret h3 wd3 σ3 rs3
              | rt d => exact fun v rv => Pst.ret h3 wd3 v rv
            · rename_i hx
              exact .inl ⟨y2 i (by simpa using hx), Pst.ok h wd σ rs⟩
          · exact h.elim
end
/-! ### comprehensions -/
abbrev W0 : XK := fun _ _ _ => False
/-- the new list at D, hidden -/
structure Lc (K : PySem.W.Frag) (w : World) (D : Addr) (H1 : Hp) (j1 : J) (dn : List Mp.D) (st : Sto) (H : Hp) (j : J) : Prop where
  hid : j.hid = D :: j1.hid
  wx : Wx H1 j1 H j
  kh : ∀ a o, a ∈ j1.hid → H1 a = some o → H a = some o
  acc : ∃ acc, H D = some (.lst acc) ∧ RepL K w H j dn acc
  wd : Wd K w H j st
section
variable {K : PySem.W.Frag} {w : World} {L : Addr} {H1 H H' : Hp} {j1 j j' : J} {dn : List D} {st st' : Sto}
theorem Lc.start (hD : H1 L = none) (wd : Wd K w H1 j1 st) : Lc K w L H1 j1 [] st (upd H1 L (.lst [])) (j1.hide L) := by
  have sm : Same H1 (upd H1 L (.lst [])) := Same.new hD
  have wx : Wx H1 j1 (upd H1 L (.lst [])) (j1.hide L) := ⟨⟨[], by simp [J.hide]⟩, fun a o _ q => sm a o q, fun a ha => by
    rcases ha with ha | ha
    · exact .inl (.inl ha)
    · rcases List.mem_cons.mp ha with e | ha
      · rw [e]; exact .inr hD
      · exact .inl (.inr ha), fun a o u q => sm a _ q⟩
  refine ⟨rfl, wx, fun a o _ q => sm a o q, ⟨[], upd_same, .nil⟩, wd.len, wd.nd, fun n a c h1 h2 => (wd.at_ n a c h1 h2).wx wx fun o q => sm a o q, fun a ha => ?_⟩
  rcases List.mem_cons.mp ha with e | ha
  · subst e
    exact ⟨fun z => (by obtain ⟨o, q⟩ := wd.there z; rw [hD] at q; cases q), _, upd_same⟩
  · obtain ⟨q1, o, q2⟩ := wd.hd a ha
    exact ⟨q1, o, sm a o q2⟩
theorem Lc.ext (l : Lc K w L H1 j1 dn st H j) (e : Ext H j H' j') (wd : Wd K w H' j' st') : Lc K w L H1 j1 dn st' H' j' := by
  obtain ⟨acc, q1, q2⟩ := l.acc
  exact ⟨e.hide.trans l.hid, l.wx.trans e.toWx, fun a o h1 h2 => e.kh a o (by rw [l.hid]; exact List.mem_cons_of_mem _ h1) (l.kh a o h1 h2), ⟨acc, e.kh L _ (by rw [l.hid]; exact List.mem_cons_self) q1, q2.ext e⟩, wd⟩
theorem Lc.push (hD : H1 L = none) (l : Lc K w L H1 j1 dn st H j) {d : D} {v : V} {acc : List V} (hv : Rep K w H j d v) (ha : H L = some (.lst acc)) : Lc K w L H1 j1 (dn ++ [d]) st (upd H L (.lst (acc ++ [v]))) j := by
  obtain ⟨acc', q1, q2⟩ := l.acc
  rw [ha] at q1; cases q1
  have mem : L ∈ j.hid := by rw [l.hid]; exact List.mem_cons_self
  have wx : Wx H j (upd H L (.lst (acc ++ [v]))) j := ⟨⟨[], by simp⟩, fun a o hn q => by rw [upd_ne (fun z => hn (by rw [z]; exact .inr mem))]; exact q, fun a ha => .inl ha, frz_upd ha no_lst⟩
  refine ⟨l.hid, l.wx.trans wx, fun a o h1 h2 => ?_, ⟨_, upd_same, (q2.wx wx).append ((RepL.cons hv .nil).wx wx)⟩, l.wd.len, l.wd.nd, fun n a c h1 h2 => (l.wd.at_ n a c h1 h2).wx wx fun o q => ?_, fun a ha' => ?_⟩
  · rw [upd_ne (fun z => by rw [z, hD] at h2; cases h2)]
    exact l.kh a o h1 h2
  · rw [upd_ne (fun z => (l.wd.hd L mem).1 (by rw [← z]; exact List.mem_of_getElem? h1))]
    exact q
  · obtain ⟨q1, o, q2⟩ := l.wd.hd a ha'
    refine ⟨q1, ?_⟩
    by_cases e : a = L
    · subst e; exact ⟨_, upd_same⟩
    · exact ⟨o, by rw [upd_ne e]; exact q2⟩
theorem Lc.fin (hD : H1 L = none) (wd1 : Wd K w H1 j1 st') (l : Lc K w L H1 j1 dn st H j) : ∃ j', Ext H1 j1 H j' ∧ Wd K w H j' st ∧ Rep K w H j' (.lst dn) (.ref L) := by
  have wx : Wx H j H ⟨j.ix, j1.hid⟩ := ⟨⟨[], by simp⟩, fun a o _ q => q, fun a ha => by
    rcases ha with ha | ha
    · exact .inl (.inl ha)
    · exact .inl (.inr (by rw [l.hid]; exact List.mem_cons_of_mem _ ha)), fun _ _ _ q => q⟩
  obtain ⟨acc, q1, q2⟩ := l.acc
  have mem : L ∈ j.hid := by rw [l.hid]; exact List.mem_cons_self
  refine ⟨⟨j.ix, j1.hid⟩, ⟨l.wx.trans wx, rfl, l.kh⟩, ⟨l.wd.len, l.wd.nd, fun n a c h1 h2 => (l.wd.at_ n a c h1 h2).wx wx fun o q => q, fun a ha => l.wd.hd a (by rw [l.hid]; exact List.mem_cons_of_mem _ ha)⟩, ?_⟩
  simp only [Rep]
  refine ⟨L, acc, rfl, fun z => ?_, .inl q1, q2.wx wx⟩
  rcases z with z | z
  · exact (l.wd.hd L mem).1 z
  · obtain ⟨_, o, q⟩ := wd1.hd L z
    rw [hD] at q; cases q
end
section
variable {X : Cx} {cA : Nat → Addr} {W : XK} {pos : Pos} {cl : Nat → List D → M D} {C : List D}
theorem Kit.blk (k : Kit X W) (s : Shared) (H : Hp) (scope : Scope) (cenv : PySem.Env) (fp : List Addr) : Kit (X.blk s H scope cenv fp) W0 :=
  ⟨⟨k.gx.un, k.gx.gd, k.gx.calm, k.gx.sm⟩, k.nd, fun _ _ _ _ _ _ _ ⟨_, _, _, _, _, _, _, _, _, _, _, _, z⟩ => z.elim⟩
theorem ts_nil : PTs X [] (tT cA X.K X.w W (evA1 cl C .n)) := ⟨fun pins s σ H Q I ⟨r, m, j, rs, wd, h⟩ => pts_nil.run pins s σ H Q I (by simp only [evA1] at h; exact Pst.ret h wd)⟩
theorem ts_one {c : Expr} {c' : E} (h : PT X c (tT cA X.K X.w W (evT cl C c'))) : PTs X [c] (tT cA X.K X.w W (evA1 cl C (.c c' .n))) := ⟨fun pins s σ H Q I ⟨r, m, j, rs, wd, hh⟩ => (pts_one h).run pins s σ H Q I (by
  simp only [evA1] at hh
  refine ⟨r, m, j, rs, wd, (Pst.bnd hh).mono fun x m1 H1 j1 e1 wd1 h1 => ?_⟩
  cases x <;> exact Pst.ret h1 wd1)⟩
/-- one turn -/
theorem lc_turn {t' : Tg} {c' : Es} {e' : E} {r : Env} {x : D} {st st1 : Sto} {o : Option D} {σ : L2.St} {H1 H H' : Hp} {j1 j : J} {L : Addr} {dn : List D} {v : V} {K : PySem.W.Frag} {w : World} (hD : H1 L = none) (l : Lc K w L H1 j1 dn st H j) (rs : RS K w H1 j1 σ r) (sm : Same H H') (rv : Rep K w H' j x v)
    (hz : ∀ d, o = some d → dn.length < sizeLine)
    (ho : ((asT cl C t' x (wipeD r t'.slots)).bnd fun r1 => (evA1 cl C c' r1).bnd fun k => if k then (ev cl C e' r1).bnd fun d => M.ret (some d) else M.ret none) st = .ok o st1) {Nx : Hp → Prop}
    (hN : ∀ H2 j2, (Lc K w L H1 j1 (match o with
      | some d => dn ++ [d]
      | none => dn) st1 H2 j2) → Nx H2) :
    tG cA K w W0 t'.slots (asT cl C t') v (wipe σ t'.slots) H' fun σ2 H2 => wipe σ2 t'.slots = wipe σ t'.slots ∧ tT cA K w W0 (evA1 cl C c') σ2 H2 fun b H3 =>
      if b = true then tE cA K w W0 (ev cl C e') σ2 H3 fun y H4 => ∃ acc, H4 L = some (.lst acc) ∧ acc.length < sizeLine ∧ Nx (upd H4 L (.lst (acc ++ [y]))) else Nx H3 := by
  obtain ⟨r1, m1, h1, ho⟩ := bnd_ok ho
  obtain ⟨b, m2, h2, ho⟩ := bnd_ok ho
  have l' := l.ext (.of_same sm) (l.wd.same sm)
  refine ⟨x, wipeD r t'.slots, st, j, rv, (rs.wx l'.wx).wipe _, l'.wd, ?_⟩
  rw [h1]
  refine fun H2 j2 e2 wd2 σ2 rs2 hw => ⟨?_, r1, m1, j2, rs2, wd2, ?_⟩
  · obtain ⟨q1, q2⟩ := of_wipe hw
    rw [wipe_length] at q1
    exact wipe_eq q1 fun i hi => by rw [q2 i hi, wipe_other hi]
  · rw [h2]
    refine fun H3 j3 e3 wd3 => ?_
    have l3 := l'.ext (e2.trans e3) wd3
    cases b with
    | false =>
      cases ho
      exact hN H3 j3 l3
    | true =>
      show tE cA K w W0 (ev cl C e') σ2 H3 fun y H4 => ∃ acc, H4 L = some (.lst acc) ∧ acc.length < sizeLine ∧ Nx (upd H4 L (.lst (acc ++ [y])))
      obtain ⟨d, m3, h3, ho⟩ := bnd_ok ho
      cases ho
      refine ⟨r1, m2, j3, rs2.ext e3, wd3, ?_⟩
      rw [h3]
      refine fun H4 j4 e4 wd4 y ry => ?_
      have l4 := l3.ext e4 wd4
      obtain ⟨acc, q1, q2⟩ := l4.acc
      exact ⟨acc, q1, by rw [← q2.length]; exact hz _ rfl, hN _ j4 (l4.push hD ry q1)⟩
def lcOne (cl : Nat → List D → M D) (C : List D) (t' : Tg) (c' : Es) (e' : E) (r : Env) : D → M (Option D) := fun x => (asT cl C t' x (wipeD r t'.slots)).bnd fun r1 => (evA1 cl C c' r1).bnd fun k => if k then (ev cl C e' r1).bnd fun d => M.ret (some d) else M.ret none
theorem lc_ok {t' : Tg} {i' : Mp.It} {c' : Es} {e' : E} {σ : L2.St} {H : Hp} {Q : VK} {vs : List Nat} (hv : vs = t'.slots) (h : tE cA X.K X.w W (ev cl C (.lc t' i' c' e')) σ H Q) :
    tLc (tI cA X.K X.w W (evi cl C i')) (tG cA X.K X.w W0 t'.slots (asT cl C t')) (tT cA X.K X.w W0 (evA1 cl C c')) (tE cA X.K X.w W0 (ev cl C e')) vs σ H Q := by
  subst hv
  obtain ⟨r, m, j, rs, wd, h⟩ := h
  simp only [ev] at h
  refine ⟨r, m, j, rs, wd, (Pst.bnd h).mono fun wk m1 H1 j1 e1 wd1 h1 T hT L hD => ?_⟩
  have rs1 := rs.ext e1
  obtain ⟨ds, m2, hr, hz, fin⟩ : ∃ ds m2, lcW (lcOne cl C t' c' e' r) wk m1 = .ok ds m2 ∧ ds.length ≤ sizeLine ∧ ∀ H' j', Ext H1 j1 H' j' → Wd X.K X.w H' j' m2 → ∀ v, Rep X.K X.w H' j' (.lst ds) v → Q v H' := by
    change Pst cA X.K X.w W H1 j1 _ (((lcW (lcOne cl C t' c' e' r) wk).calm.bnd fun ds => if ds.length ≤ sizeLine then M.ret (D.lst ds) else M.bad) m1) at h1
    unfold M.bnd M.calm at h1
    cases hr : lcW (lcOne cl C t' c' e' r) wk m1 with
    | exc _ _ => rw [hr] at h1; exact h1.elim
    | bad => rw [hr] at h1; exact h1.elim
    | ok ds m2 =>
      rw [hr] at h1
      obtain ⟨hz, h1⟩ := Pst.ite h1
      exact ⟨ds, m2, rfl, hz, h1⟩
  have stop : ∀ {st : Sto} {H : Hp} {j' : J}, Lc X.K X.w L H1 j1 ds st H j' → st = m2 → Q (.ref L) H := fun l e => by
    subst e
    obtain ⟨j2, e2, wd2, rv⟩ := l.fin hD wd1
    exact fin _ j2 e2 wd2 _ rv
  cases wk with
  | its xs =>
    simp only [lcW] at hr
    refine ⟨fun i μ H => μ = xs.length - i ∧ i ≤ xs.length ∧ ∃ dn rest st j', lcL (lcOne cl C t' c' e' r) (xs.drop i) st = .ok rest m2 ∧ dn ++ rest = ds ∧ Lc X.K X.w L H1 j1 dn st H j',
      ⟨xs.length, by simp, Nat.zero_le _, [], ds, m1, _, by rw [List.drop_zero]; exact hr, rfl, .start hD wd1⟩, ?_⟩
    rintro i μ H ⟨rfl, hi, dn, rest, st, j', h, hd, l⟩
    obtain ⟨y1, y2⟩ := hT H j' st l.wx l.wd
    by_cases hlt : i < xs.length
    · obtain ⟨go, yld⟩ := y1 i xs[i] (by simp [hlt])
      rw [List.drop_eq_getElem_cons hlt] at h
      simp only [lcL] at h
      obtain ⟨o, st1, ho, h⟩ := bnd_ok h
      obtain ⟨rest', st2, h', h⟩ := bnd_ok h
      have h := R.ok.inj h
      obtain ⟨h3, rfl⟩ := h
      refine .inr ⟨go, _, fun H' n => ⟨xs.length - (i + 1), by omega, n⟩, fun v H' y => ?_⟩
      obtain ⟨sm, rv⟩ := yld v H' y
      refine lc_turn hD l rs1 sm rv (fun d e => ?_) ho fun H2 j2 l2 => ⟨rfl, hlt, _, rest', st1, j2, h', ?_, l2⟩
      · subst e
        rw [← hd, ← h3, List.length_append] at hz
        simp only [List.length_cons] at hz
        omega
      · rw [← hd, ← h3]
        cases o with
        | none => rfl
        | some d => simp
    · have e2 : i = xs.length := by omega
      subst e2
      rw [List.drop_length] at h
      have h := R.ok.inj h
      obtain ⟨h3, h4⟩ := h
      rw [← h3, List.append_nil] at hd
      subst hd
      exact .inl ⟨y2 _ (Nat.le_refl _), stop l h4⟩
  | live n =>
    simp only [lcW] at hr
    refine ⟨fun i μ H => ∃ dn rest st j', lcR (lcOne cl C t' c' e' r) n μ i st = .ok rest m2 ∧ dn ++ rest = ds ∧ Lc X.K X.w L H1 j1 dn st H j', ?_, ?_⟩
    · split at hr
      · exact ⟨_, [], ds, m1, _, hr, rfl, .start hD wd1⟩
      · cases hr
    · rintro i μ H ⟨dn, rest, st, j', h, hd, l⟩
      cases μ with
      | zero => cases h
      | succ μ =>
        simp only [lcR] at h
        split at h
        · rename_i xs hm
          obtain ⟨y1, y2⟩ := hT H j' st l.wx l.wd xs hm
          split at h
          · rename_i x hx
            obtain ⟨go, yld⟩ := y1 i x hx
            obtain ⟨o, st1, ho, h⟩ := bnd_ok h
            obtain ⟨rest', st2, h', h⟩ := bnd_ok h
            have h := R.ok.inj h
            obtain ⟨h3, rfl⟩ := h
            refine .inr ⟨go, fun H => ∃ dn rest st j', lcR (lcOne cl C t' c' e' r) n μ (i + 1) st = .ok rest st2 ∧ dn ++ rest = ds ∧ Lc X.K X.w L H1 j1 dn st H j', fun H' n => ⟨μ, Nat.lt_succ_self _, n⟩, fun v H' y => ?_⟩
            obtain ⟨sm, rv⟩ := yld v H' y
            refine lc_turn hD l rs1 sm rv (fun d e => ?_) ho fun H2 j2 l2 => ⟨_, rest', st1, j2, h', ?_, l2⟩
            · subst e
              rw [← hd, ← h3, List.length_append] at hz
              simp only [List.length_cons] at hz
              omega
            · rw [← hd, ← h3]
              cases o with
              | none => rfl
              | some d => simp
          · rename_i hx
            have h := R.ok.inj h
            obtain ⟨h3, h4⟩ := h
            rw [← h3, List.append_nil] at hd
            subst hd
            exact .inl ⟨y2 i (by simpa using hx), stop l h4⟩
        · cases h
theorem s_lc {elt tg iter : Expr} {ifs : List Expr} {scope : Scope} {own : List (Str × Nat)} {t' : Tg} {i' : Mp.It} {c' : Es} {e' : E} (k : Kit X W) (hi : PI X tg iter (tI cA X.K X.w W (evi cl C i'))) (ok : BlkOk X.N X.env.scope scope own) (ho : own.map (·.2) = t'.slots)
    (hg : ∀ (s : Shared) (H : Hp) (B : Addr) (bl : List (Str × Addr)) (fp : List Addr), PG (X.blk s H scope (compEnvC scope bl B X.env) fp) tg (tG cA X.K X.w W0 t'.slots (asT cl C t')))
    (ht : ∀ (s : Shared) (H : Hp) (B : Addr) (bl : List (Str × Addr)) (fp : List Addr), PTs (X.blk s H scope (compEnvC scope bl B X.env) fp) ifs (tT cA X.K X.w W0 (evA1 cl C c')))
    (he : ∀ (s : Shared) (H : Hp) (B : Addr) (bl : List (Str × Addr)) (fp : List Addr), PE (X.blk s H scope (compEnvC scope bl B X.env) fp) elt (tE cA X.K X.w W0 (ev cl C e'))) (hs : ∀ x, foldedSetIterable iter X.env x = pure x := by intro _; rfl) :
    PE X (.ListComp elt [⟨tg, iter, ifs, 0⟩] scope pos) (tE cA X.K X.w W (ev cl C (.lc t' i' c' e'))) :=
  (pe_lc k.gx.calm k.nd hi ok hg ht he hs).imp fun σ H Q h => lc_ok ho h
theorem s_setLc {i : Nat} {y : Str} {py : Pos} {elt tg iter : Expr} {ifs : List Expr} {scope : Scope} {own : List (Str × Nat)} {spos : Pos} {t' : Tg} {i' : Mp.It} {c' : Es} {e' : E} (k : Kit X W) (hy : X.N[i]? = some y) (hyl : X.env.scope.names.lookup y = some .local) (hk : X.env.scope.kind = .function)
    (hl : (py.line == pos.line) = true) (ha : (scope.names.any fun (n, k) => n == y && (k == .local || k == .cell)) = false)
    (hi : PI X tg iter (tI cA X.K X.w W (evi cl C i'))) (ok : BlkOk X.N X.env.scope scope own) (ho : own.map (·.2) = t'.slots)
    (hg : ∀ (s : Shared) (H : Hp) (B : Addr) (bl : List (Str × Addr)) (fp : List Addr), PG (X.blk s H scope (compEnvC scope bl B X.env) fp) tg (tG cA X.K X.w W0 t'.slots (asT cl C t')))
    (ht : ∀ (s : Shared) (H : Hp) (B : Addr) (bl : List (Str × Addr)) (fp : List Addr), PTs (X.blk s H scope (compEnvC scope bl B X.env) fp) ifs (tT cA X.K X.w W0 (evA1 cl C c')))
    (he : ∀ (s : Shared) (H : Hp) (B : Addr) (bl : List (Str × Addr)) (fp : List Addr), PE (X.blk s H scope (compEnvC scope bl B X.env) fp) elt (tE cA X.K X.w W0 (ev cl C e'))) (hs : ∀ x, foldedSetIterable iter X.env x = pure x := by intro _; rfl) :
    PS X (.Assign [.Name y py] (.ListComp elt [⟨tg, iter, ifs, 0⟩] scope pos) spos) (tS cA X.K X.w W (ex cl C (.asg (.nm i) (.lc t' i' c' e')))) :=
  (ps_setLc k.gx.calm k.nd hy hyl (sw_true hk hyl hl ha) hi ok hg ht he hs).imp fun B σ H ⟨r, m, j, rs, wd, h⟩ => by
    simp only [ex] at h
    refine lc_ok (Q := fun x H1 => gName i x σ H1 B.nx) ho ⟨r, m, j, rs, wd, (Pst.bnd h).mono fun d m1 H1 j1 e1 wd1 h1 v rv => ?_⟩
    simp only [asT] at h1
    replace h1 := Pst.bnd h1
    obtain ⟨_, h1⟩ := h1.ite
    exact Pst.ret (Pst.ret h1 wd1) wd1 _ ((rs.ext e1).set rv)
end
end Mp
end
section -- MpH
set_option Elab.async false
set_option linter.all false
set_option maxRecDepth 100000
set_option maxHeartbeats 4000000
/-! Mp, part H: what is walked, built-ins, isinstance, methods, calls. -/
namespace Mp
open PySem L2 PyProof.Rows
section
variable {X : Cx} {cA : Nat → Addr} {W : XK} {pos : Pos} {cl : Nat → List D → M D} {C : List D} {tg : Expr}
theorem _root_.L2.PI.imp {tg e : Expr} {t t' : TI} (h : PI X tg e t) (k : ∀ σ H R, t' σ H R → t σ H R) : PI X tg e t' := ⟨fun pins s σ H R I q => h.run pins s σ H R I (k _ _ _ q)⟩
/-! what is walked -/
theorem okL {K : PySem.W.Frag} {w : World} {H : Hp} {j : J} {a : Addr} {xs : List D} {vs : List V} (h1 : a ∉ j) (h2 : Rd H a (.lst vs)) (rl : RepL K w H j xs vs) : ItOk K w H j (.its xs) (Itl K a) := by
  intro H2 j2 m2 wx wd
  have q := (wx.rd h1 h2).2
  have rl2 := rl.wx wx
  refine ⟨fun i x hx => ?_, fun i hi => ⟨vs, .inl q, by rw [← rl.length]; exact hi⟩⟩
  obtain ⟨v, hv, rv⟩ := rl2.get hx
  refine ⟨⟨vs, v, .inl q, hv⟩, fun u H' ⟨e, y⟩ => ?_⟩
  subst e
  have := y vs (.inl q)
  rw [hv] at this
  cases this
  exact ⟨same_refl, rv⟩
theorem okT {K : PySem.W.Frag} {w : World} {H : Hp} {j : J} {a : Addr} {xs : List D} {vs : List V} (h : (a ∉ j ∧ Rd H a (.tup vs)) ∨ KTup K a vs) (rl : RepL K w H j xs vs) : ItOk K w H j (.its xs) (Itt K a) := by
  intro H2 j2 m2 wx wd
  have q : SqT K H2 a vs := by
    rcases h with ⟨h1, h2⟩ | h
    · exact .inl (wx.rd h1 h2).2
    · exact .inr h
  have rl2 := rl.wx wx
  refine ⟨fun i x hx => ?_, fun i hi => ⟨vs, q, by rw [← rl.length]; exact hi⟩⟩
  obtain ⟨v, hv, rv⟩ := rl2.get hx
  refine ⟨⟨vs, v, q, hv⟩, fun u H' ⟨e, y⟩ => ?_⟩
  subst e
  have := y vs q
  rw [hv] at this
  cases this
  exact ⟨same_refl, rv⟩
theorem okF {K : PySem.W.Frag} {w : World} {H : Hp} {j : J} {a : Addr} {xs : List D} {vs : List V} {o : Obj} (h : H a = some (.frz o (.tup vs))) (rl : RepL K w H j xs vs) : ItOk K w H j (.its xs) (Itt K a) := by
  intro H2 j2 m2 wx wd
  have q : SqT K H2 a vs := .inl (.inr ⟨o, wx.frz a o _ h⟩)
  have rl2 := rl.wx wx
  refine ⟨fun i x hx => ?_, fun i hi => ⟨vs, q, by rw [← rl.length]; exact hi⟩⟩
  obtain ⟨v, hv, rv⟩ := rl2.get hx
  refine ⟨⟨vs, v, q, hv⟩, fun u H' ⟨e, y⟩ => ?_⟩
  subst e
  have := y vs q
  rw [hv] at this
  cases this
  exact ⟨same_refl, rv⟩
theorem keys_at {ks : List Key} {vs : List V} (hl : ks.length = vs.length) {i : Nat} {d : D} (h : (ks.map keyD)[i]? = some d) : ∃ k v, (ks.zip vs)[i]? = some (k, v) ∧ d = keyD k := by
  rw [List.getElem?_map] at h
  obtain ⟨k, e, rfl⟩ := Option.map_eq_some_iff.mp h
  have hi : i < ks.length := (List.getElem?_eq_some_iff.mp e).1
  refine ⟨k, vs[i]'(by omega), ?_, rfl⟩
  rw [List.getElem?_zip_eq_some]
  exact ⟨e, List.getElem?_eq_getElem _⟩
theorem rep_key {K : PySem.W.Frag} {w : World} {H : Hp} {j : J} (k : Key) : Rep K w H j (keyD k) (kV k) := by
  cases k <;> simp only [keyD, kV, Rep]
theorem okK {K : PySem.W.Frag} {w : World} {H : Hp} {j : J} {a : Addr} {o : Obj} {ks : List Key} {vs : List V} (hl : ks.length = vs.length) (h : H a = some (.frz o (.dK (ks.zip vs)))) : ItOk K w H j (.its (ks.map keyD)) (Itk a o (ks.zip vs)) := by
  intro H2 j2 m2 wx wd
  have h2 := wx.frz a o _ h
  refine ⟨fun i x hx => ?_, fun i hi => ?_⟩
  · obtain ⟨k, v, e, rfl⟩ := keys_at hl hx
    have hi : i < (ks.zip vs).length := (List.getElem?_eq_some_iff.mp e).1
    refine ⟨⟨h2, hi⟩, fun u H' ⟨eH, k', v', e', eu⟩ => ?_⟩
    rw [e] at e'
    cases e'
    subst eH eu
    exact ⟨same_refl, rep_key k⟩
  · refine ⟨h2, ?_⟩
    rw [List.length_map] at hi
    rw [List.length_zip]
    omega
theorem okR {K : PySem.W.Frag} {w : World} {H : Hp} {j : J} {a : Addr} {n : Nat} (h : j.ix[n]? = some a) : ItOk K w H j (.live n) (Itl K a) := by
  intro H2 j2 m2 wx wd xs hm
  obtain ⟨vs, q, rl⟩ := wd.at_ n a _ (wx.ix h) hm
  refine ⟨fun i x hx => ?_, fun i hi => ⟨vs, .of q, by rw [← rl.length]; exact hi⟩⟩
  obtain ⟨v, hv, rv⟩ := rl.get hx
  refine ⟨⟨vs, v, .of q, hv⟩, fun u H' ⟨e, y⟩ => ?_⟩
  subst e
  have := y vs (.of q)
  rw [hv] at this
  cases this
  exact ⟨same_refl, rv⟩
theorem okS {K : PySem.W.Frag} {w : World} {H : Hp} {j : J} {x : Str} : ItOk K w H j (.its (strD x)) (Its x) := by
  intro H2 j2 m2 wx wd
  refine ⟨fun i d hx => ?_, fun i hi => ?_⟩
  · unfold strD at hx
    rw [List.getElem?_map] at hx
    obtain ⟨c, hc, rfl⟩ := Option.map_eq_some_iff.mp hx
    rw [Array.getElem?_toList] at hc
    refine ⟨(Array.getElem?_eq_some_iff.mp hc).1, fun u H' ⟨e, c', q1, q2⟩ => ?_⟩
    subst e
    rw [hc] at q1; cases q1
    subst q2
    exact ⟨same_refl, by simp only [Rep]⟩
  · unfold strD at hi
    show x.cps.size ≤ i
    simpa using hi
theorem i_seq {e : Expr} {e' : E} (he : PE X e (tE cA X.K X.w W (ev cl C e'))) : PI X tg e (tI cA X.K X.w W (evi cl C (.seq e'))) := by
  refine ⟨fun pins s σ H R I ⟨r, m, j, rs, wd, h⟩ => ?_⟩
  simp only [evi] at h
  refine thn (he.run pins s σ H (fun v H1 => ∃ d m1 j1, Rep X.K X.w H1 j1 d v ∧ Wd X.K X.w H1 j1 m1 ∧ ∃ wk, seqW m1 d = some wk ∧ ∀ T, ItOk X.K X.w H1 j1 wk T → R T H1) I ⟨r, m, j, rs, wd, (Pst.bnd h).mono fun d m1 H1 j1 e1 wd1 h1 v rv => ?_⟩) fun v s1 ⟨x, H1, I1, r1, d, m1, j1, rd, wd1, wk, e, q⟩ => ?_
  · obtain ⟨wk, e, h1⟩ := h1.optM
    exact ⟨d, m1, j1, rv, wd1, wk, e, Pst.ok h1 wd1⟩
  · have lst : ∀ {a : Addr} {vs : List V}, SqL X.K H1 a vs → R (Itl X.K a) H1 → wpAny (model X.prog X.w) X.A (pyIter (.ref a)) (PIE X pins σ tg R) X.xe s1 := fun {a vs} hq q => by
      obtain ⟨its, rv, p, hz⟩ := I1.list hq
      refine wpAny_pyIter_list p.isList ?_
      refine ⟨s1.heap.objs.size, [s1.heap.objs.size], _, _, H1, rfl, I1.kept (t' := s1.toks) fun b o e => Heap.get?_push_of_some _ e, turn_list a _, ⟨_, Heap.get?_push_size _ rfl, rfl, rfl⟩, fun b hb => ?_, q⟩
      have e : b = s1.heap.objs.size := by simpa using hb
      subst e
      exact I1.fpOk (Nat.le_refl _) (I1.hok.fresh (Nat.le_refl _))
    have tup : ∀ {a : Addr} {vs : List V}, SqT X.K H1 a vs → R (Itt X.K a) H1 → wpAny (model X.prog X.w) X.A (pyIter (.ref a)) (PIE X pins σ tg R) X.xe s1 := fun {a vs} hq q => by
      obtain ⟨its, rv, p, hz⟩ := I1.tuple hq
      refine wpAny_pyIter_tuple (show s1.heap.IsTuple a its.toArray from p) ?_
      refine ⟨s1.heap.objs.size, [s1.heap.objs.size], _, _, H1, rfl, I1.kept (t' := s1.toks) fun b o e => Heap.get?_push_of_some _ e, turn_tuple a _, ⟨_, Heap.get?_push_size _ rfl, rfl, rfl⟩, fun b hb => ?_, q⟩
      have e : b = s1.heap.objs.size := by simpa using hb
      subst e
      exact I1.fpOk (Nat.le_refl _) (I1.hok.fresh (Nat.le_refl _))
    cases d with
    | tup xs =>
      cases e
      simp only [Rep] at rd
      obtain ⟨a, vs, rfl, hq, rl⟩ := rd
      cases r1
      exact tup (tup_sq hq) (q _ (okT hq rl))
    | lst xs =>
      cases e
      simp only [Rep] at rd
      obtain ⟨a, vs, rfl, h1, h2, rl⟩ := rd
      cases r1
      exact lst (.inl h2) (q _ (okL h1 h2 rl))
    | ref n =>
      simp only [seqW] at e
      simp only [Rep] at rd
      obtain ⟨a, rfl, h1⟩ := rd
      cases r1
      split at e
      · rename_i xs hm
        cases e
        obtain ⟨vs, q1, q2⟩ := wd1.at_ n a _ h1 hm
        exact lst (.of q1) (q _ (okR h1))
      · rename_i xs hm
        cases e
        obtain ⟨o, vs, q1, _, q2⟩ := wd1.at_ n a _ h1 hm
        exact tup (.inl (.inr ⟨o, q1⟩)) (q _ (okF q1 q2))
      · rename_i ks ds hm
        cases e
        obtain ⟨o, vs, q1, hl, q2⟩ := wd1.at_ n a _ h1 hm
        obtain ⟨hs, hgd, hx, es, ep, vs', hdt, hsz, kv, hm'⟩ := I1.frzK q1
        refine iter_keys hs hgd hx hdt (pi_one (tk := s1.toks) I1 _ (turn_keys _ hdt) ⟨_, Heap.get?_push_size _ rfl, rfl, ?_⟩ (q _ (okK hl q1)))
        rw [hsz] <;> rfl
      · cases e
    | str x =>
      cases e
      simp only [Rep] at rd
      subst rd
      obtain ⟨t, rfl⟩ := r1
      cases ha : x.cps.all (· < 128)
      · exact wpAny_pyIter_wide ha (pi_one (tk := s1.toks) I1 _ (turn_str _ x t "str_iterator" (.inr rfl)) ⟨_, Heap.get?_push_size _ rfl, rfl, rfl⟩ (q _ okS))
      · exact wpAny_pyIter_ascii ha (pi_one (tk := s1.toks) I1 _ (turn_str _ x t "str_ascii_iterator" (.inl rfl)) ⟨_, Heap.get?_push_size _ rfl, rfl, rfl⟩ (q _ okS))
    | _ => cases e
theorem okRg {K : PySem.W.Frag} {w : World} {H : Hp} {j : J} {lo : Int} {n : Nat} : ItOk K w H j (.its (rngD lo n)) (Itr lo n) := by
  intro H2 j2 m2 wx wd
  refine ⟨fun i d hx => ?_, fun i hi => (by show n ≤ i; simpa [rngD] using hi)⟩
  unfold rngD at hx
  rw [List.getElem?_map] at hx
  obtain ⟨c, hc, rfl⟩ := Option.map_eq_some_iff.mp hx
  obtain ⟨hl, hc⟩ := List.getElem?_eq_some_iff.mp hc
  simp only [List.length_range, List.getElem_range] at hl hc
  subst hc
  refine ⟨hl, fun u H' ⟨e, q⟩ => ?_⟩
  subst e q
  exact ⟨same_refl, by simp only [Rep]⟩
theorem small62_ok {i : Int} (h : small62 i = true) : -(2 ^ 62) ≤ i ∧ i < 2 ^ 62 := by
  unfold small62 at h
  simpa using h
theorem i_rg1 {a : Expr} {a' : E} {p : Pos} (hg : Gl X "range") (hm : X.mg "range" = none) (ha : PE X a (tE cA X.K X.w W (ev cl C a'))) (hs : starEach [a] X.env = [(false, eval a X.env)] := by rfl) : PI X tg (.Call (.Name "range" p) [a] [] pos) (tI cA X.K X.w W (evi cl C (.rg1 a'))) :=
  (pi_range1 hg hm (pa_cons ha pa_nil hs) hs).imp fun σ H R ⟨r, m, j, rs, wd, h⟩ => by
    simp only [evi] at h
    refine ⟨r, m, j, rs, wd, (Pst.bnd h).mono fun d m1 H1 j1 e1 wd1 h1 v rv => ?_⟩
    cases d with
    | int n =>
      simp only [Rep] at rv
      subst rv
      obtain ⟨hz, h1⟩ := h1.ite
      obtain ⟨z1, z2⟩ := small62_ok hz
      exact ⟨n, rfl, z1, z2, Pst.ret h1 wd1 _ okRg⟩
    | _ => exact h1.elim
theorem i_rg2 {a b : Expr} {a' b' : E} {p : Pos} (hg : Gl X "range") (hm : X.mg "range" = none) (ha : PE X a (tE cA X.K X.w W (ev cl C a'))) (hb : PE X b (tE cA X.K X.w W (ev cl C b'))) (hs : starEach [a, b] X.env = [(false, eval a X.env), (false, eval b X.env)] := by rfl) (hs2 : starEach [b] X.env = [(false, eval b X.env)] := by rfl) :
    PI X tg (.Call (.Name "range" p) [a, b] [] pos) (tI cA X.K X.w W (evi cl C (.rg2 a' b'))) :=
  (pi_range2 hg hm (pa_cons ha (pa_cons hb pa_nil hs2) (by rw [hs, hs2])) hs hs2).imp fun σ H R ⟨r, m, j, rs, wd, h⟩ => by
    simp only [evi] at h
    refine ⟨r, m, j, rs, wd, (Pst.bnd h).mono fun d m1 H1 j1 e1 wd1 h1 v rv => ?_⟩
    refine ⟨r, m1, j1, rs.ext e1, wd1, (Pst.bnd h1).mono fun f m2 H2 j2 e2 wd2 h2 u ru => ?_⟩
    split at h2
    · rename_i x y
      simp only [Rep] at rv ru
      subst rv ru
      obtain ⟨hz, h2⟩ := h2.ite
      simp only [Bool.and_eq_true] at hz
      obtain ⟨z1, z2⟩ := small62_ok hz.1
      obtain ⟨z3, z4⟩ := small62_ok hz.2
      exact ⟨x, y, rfl, ⟨z1, z2, z3, z4⟩, Pst.ret h2 wd2 _ okRg⟩
    · exact h2.elim
theorem zipD_at : ∀ {xs ys : List D} {i : Nat} {d : D}, (zipD xs ys)[i]? = some d → ∃ x y, xs[i]? = some x ∧ ys[i]? = some y ∧ d = .tup [x, y]
  | [], _, i, d, h => by simp [zipD] at h
  | _ :: _, [], i, d, h => by simp [zipD] at h
  | x :: xs, y :: ys, 0, d, h => by
    simp only [zipD, List.getElem?_cons_zero, Option.some.injEq] at h
    exact ⟨x, y, rfl, rfl, h.symm⟩
  | x :: xs, y :: ys, i + 1, d, h => by
    simp only [zipD, List.getElem?_cons_succ] at h
    obtain ⟨a, b, h1, h2, h3⟩ := zipD_at h
    exact ⟨a, b, by simpa using h1, by simpa using h2, h3⟩
theorem zipD_len : ∀ {xs ys : List D}, (zipD xs ys).length = min xs.length ys.length
  | [], _ => by simp [zipD]
  | _ :: _, [] => by simp [zipD]
  | x :: xs, y :: ys => by simp only [zipD, List.length_cons]; rw [zipD_len]; omega
theorem pair_new {K : PySem.W.Frag} {w : World} {H : Hp} {j : J} {m : Sto} {T : Addr} {x y : D} {v u : V} (wd : Wd K w H j m) (hT : H T = none) (rv : Rep K w H j x v) (ru : Rep K w H j y u) : Same H (upd H T (.tup [v, u])) ∧ Rep K w (upd H T (.tup [v, u])) j (.tup [x, y]) (.ref T) :=
  ⟨Same.new hT, rep_tup wd hT (RepL.cons rv (RepL.cons ru .nil))⟩
theorem i_zip {e e2 : Expr} {a' b' : E} {p tpos : Pos} {elts : List Expr} {kk : Nat} (hg : Gl X "zip") (hm : X.mg "zip" = none) (ha : PE X e (tE cA X.K X.w W (ev cl C a'))) (hb : PE X e2 (tE cA X.K X.w W (ev cl C b')))
    (hs : starEach [e, e2] X.env = (false, eval e X.env) :: starEach [e2] X.env := by rfl) (hs2 : starEach [e2] X.env = (false, eval e2 X.env) :: starEach [] X.env := by rfl) (hpl : (backTo pos (starEach [e2] X.env)).any (·.1) = false := by rfl) :
    PI X (.Tuple elts kk tpos) (.Call (.Name "zip" p) [e, e2] [] pos) (tI cA X.K X.w W (evi cl C (.zip a' b'))) :=
  (RZ.pi_zipA hg hm (pa_cons ha (pa_cons hb pa_nil hs2) hs) hs hpl).imp fun σ H R ⟨r, m, j, rs, wd, h⟩ => by
    simp only [evi] at h
    refine ⟨r, m, j, rs, wd, (Pst.bnd h).mono fun d m1 H1 j1 e1 wd1 h1 v rv => ?_⟩
    refine ⟨r, m1, j1, rs.ext e1, wd1, (Pst.bnd h1).mono fun f m2 H2 j2 e2 wd2 h2 u ru => ?_⟩
    obtain ⟨wk, e, h2⟩ := h2.opt
    have rv2 := rv.ext e2
    unfold zipW at e
    split at e
    · rename_i xs ys
      cases e
      simp only [Rep] at rv2 ru
      obtain ⟨a, vs, rfl, qa, rla⟩ := rv2
      obtain ⟨b, us, rfl, qb, rlb⟩ := ru
      refine ⟨a, b, vs, us, rfl, .inr ⟨tup_sq qa, tup_sq qb, Pst.ok h2 wd2 _ fun H3 j3 m3 wx wd3 => ?_⟩⟩
      have get : ∀ {a : Addr} {vs : List V}, ((a ∉ j2 ∧ Rd H2 a (.tup vs)) ∨ KTup X.K a vs) → SqT X.K H3 a vs := fun h => by
        rcases h with ⟨h1, h2⟩ | h
        · exact .inl (wx.rd h1 h2).2
        · exact .inr h
      have rla3 := rla.wx wx
      have rlb3 := rlb.wx wx
      refine ⟨fun i d hd => ?_, fun i hi => ?_⟩
      · obtain ⟨x, y, hx, hy, rfl⟩ := zipD_at hd
        obtain ⟨v, hv, rv⟩ := rla3.get hx
        obtain ⟨u, hu, ru⟩ := rlb3.get hy
        refine ⟨⟨vs, us, v, u, get qa, get qb, hv, hu⟩, fun z H' ⟨T, v', u', ez, hT, eH, q1, q2⟩ => ?_⟩
        have := q1 vs (get qa)
        rw [hv] at this; cases this
        have := q2 us (get qb)
        rw [hu] at this; cases this
        subst ez eH
        exact pair_new wd3 hT rv ru
      · rw [zipD_len, rla.length, rlb.length] at hi
        exact ⟨vs, us, get qa, get qb, by omega⟩
    · rename_i xs ys
      cases e
      simp only [Rep] at rv2 ru
      obtain ⟨a, vs, rfl, na, qa, rla⟩ := rv2
      obtain ⟨b, us, rfl, nb, qb, rlb⟩ := ru
      refine ⟨a, b, vs, us, rfl, .inl ⟨.inl qa, .inl qb, Pst.ok h2 wd2 _ fun H3 j3 m3 wx wd3 => ?_⟩⟩
      have ga : SqL X.K H3 a vs := .inl (wx.rd na qa).2
      have gb : SqL X.K H3 b us := .inl (wx.rd nb qb).2
      have rla3 := rla.wx wx
      have rlb3 := rlb.wx wx
      refine ⟨fun i d hd => ?_, fun i hi => ?_⟩
      · obtain ⟨x, y, hx, hy, rfl⟩ := zipD_at hd
        obtain ⟨v, hv, rv⟩ := rla3.get hx
        obtain ⟨u, hu, ru⟩ := rlb3.get hy
        refine ⟨⟨vs, us, v, u, ga, gb, hv, hu⟩, fun z H' ⟨T, v', u', ez, hT, eH, q1, q2⟩ => ?_⟩
        have := q1 vs ga
        rw [hv] at this; cases this
        have := q2 us gb
        rw [hu] at this; cases this
        subst ez eH
        exact pair_new wd3 hT rv ru
      · rw [zipD_len, rla.length, rlb.length] at hi
        exact ⟨vs, us, ga, gb, by omega⟩
    · cases e
end
/-! ### built-ins -/
def rB (K : PySem.W.Frag) (w : World) (b : Blt) : List V → Hp → VK → Prop := fun xs H Q => ∃ ds d j m, RepL K w H j ds xs ∧ Wd K w H j m ∧ bltD m b ds = some d ∧ ∀ z H', Same H H' → Rep K w H' j d z → Q z H'
theorem RepL.one' {K : PySem.W.Frag} {w : World} {H : Hp} {j : J} {d : D} {vs : List V} (h : RepL K w H j [d] vs) : ∃ v, vs = [v] ∧ Rep K w H j d v := h.one
section
variable {X : Cx}
theorem blt_len : CallR X (.builtin "len") (rB X.K X.w .len) := by
  intro pins s σ H xs us Q I r ⟨ds, d, j, m, rl, wd, e, q⟩
  match ds, rl, e with
  | [x], rl, e =>
    obtain ⟨v, rfl, rv⟩ := rl.one
    simp only [bltD] at e
    obtain ⟨n, en, rfl⟩ := Option.map_eq_some_iff.mp e
    clear e
    refine call_len pins s σ H _ us Q I r ⟨v, n, rfl, ?_, q _ H same_refl (by simp only [Rep])⟩
    cases x with
    | str y =>
      simp only [lenD] at en
      simp only [Rep] at rv
      subst rv
      split at en
      · rename_i hl; cases en; exact ⟨hl, rfl⟩
      · cases en
    | tup ys =>
      simp only [lenD, items, Option.map_some, Option.some.injEq] at en
      simp only [Rep] at rv
      obtain ⟨a, vs, rfl, hq, rl⟩ := rv
      exact .inr ⟨vs, tup_sq hq, by rw [← rl.length]; exact en.symm⟩
    | lst ys =>
      simp only [lenD, items, Option.map_some, Option.some.injEq] at en
      simp only [Rep] at rv
      obtain ⟨a, vs, rfl, _, hq, rl⟩ := rv
      exact .inl ⟨vs, .inl hq, by rw [← rl.length]; exact en.symm⟩
    | ref n =>
      simp only [lenD, items] at en
      simp only [Rep] at rv
      obtain ⟨a, rfl, h1⟩ := rv
      split at en
      · rename_i ys hm
        cases en
        obtain ⟨vs, q1, q2⟩ := wd.at_ _ a _ h1 hm
        exact .inl ⟨vs, .of q1, q2.length⟩
      · cases en
    | _ => cases en
  | [], _, e => simp [bltD] at e
  | _ :: _ :: _, _, e => simp [bltD] at e
theorem blt_int : CallR X (.type "int") (rB X.K X.w .int) := by
  intro pins s σ H xs us Q I r ⟨ds, d, j, m, rl, wd, e, q⟩
  unfold bltD at e
  split at e <;> first | (rename_i h; cases h) | skip
  all_goals try cases e
  · obtain ⟨v, rfl, rv⟩ := rl.one
    simp only [Rep] at rv; subst rv
    exact call_int1 pins s σ H _ us Q I r (.inl ⟨_, rfl, q _ H same_refl (by simp only [Rep])⟩)
  · obtain ⟨v, rfl, rv⟩ := rl.one
    simp only [Rep] at rv; subst rv
    exact call_int1 pins s σ H _ us Q I r (.inr ⟨_, rfl, q _ H same_refl (by simp only [Rep])⟩)
end
end Mp
end
section -- MpI
set_option Elab.async false
set_option linter.all false
set_option maxRecDepth 100000
set_option maxHeartbeats 4000000
/-! Mp, part I: more built-ins, isinstance, methods, calls, defs. -/
namespace Mp
open PySem L2 PyProof.Rows
section
variable {X : Cx}
theorem blt_repr (G : Gx X) : CallR X (.builtin "repr") (rB X.K X.w .repr) := by
  intro pins s σ H xs us Q I r ⟨ds, d, j, m, rl, wd, e, q⟩
  match ds, rl, e with
  | [x], rl, e =>
    obtain ⟨v, rfl, rv⟩ := rl.one
    obtain ⟨u, rfl, rx⟩ := r.one
    simp only [bltD] at e
    unfold reprD at e
    split at e
    · rename_i p hp
      split at e
      · rename_i hc
        simp only [Bool.and_eq_true, decide_eq_true_eq] at hc
        obtain ⟨⟨c1, c2⟩, c3⟩ := hc
        cases e
        have hu := G.un
        have fin : ∀ {t : Tok} {s' : Shared}, Inv X pins σ H s' → EP X pins σ Q (.str p.shown t) s' := fun {t s'} I' => ⟨.str p.shown, H, I', ⟨_, rfl⟩, q _ H same_refl (by simp only [Rep])⟩
        have ref : ∀ {a : Addr}, u = .ref a → wpAny (model X.prog X.w) X.A (call (.builtin "repr") [u]) (EP X pins σ Q) X.xe s := fun {a} ea => by
          subst ea
          obtain ⟨as, rd, ns⟩ := rep_reads G I x v _ p rv rx hp
          exact PySem.repr_of_reads' rd c1 (fun _ => ns) G.gd (by omega) (fun b o e => e) (fun h' u tk k => fin (I.kept k)) c2
        cases x with
        | non =>
          simp only [Rep] at rv; subst rv
          cases rx
          cases hp
          exact PySem.P.repr_of_none (fin (I.tok _))
        | bl b =>
          simp only [Rep] at rv; subst rv
          cases rx
          cases hp
          refine PySem.P.repr_of_bool ?_
          have := fin (t := s.toks) (I.tok (s.toks + 1))
          cases b <;> exact this
        | int i =>
          simp only [Rep] at rv; subst rv
          obtain ⟨t, rfl⟩ := rx
          cases hp
          exact PySem.P.repr_of_int (by simpa [PyData.showable] using c1) (fin (I.tok _))
        | str y =>
          simp only [Rep] at rv; subst rv
          obtain ⟨t, rfl⟩ := rx
          cases hp
          exact PySem.P.repr_of_str (fin (I.tok _)) c2
        | tup ys => simp only [Rep] at rv; obtain ⟨a, vs, rfl, _⟩ := rv; exact ref rx
        | lst ys => simp only [Rep] at rv; obtain ⟨a, vs, rfl, _⟩ := rv; exact ref rx
        | dct ks ys => simp only [Rep] at rv; obtain ⟨a, vs, rfl, _⟩ := rv; exact ref rx
        | wdc ks ys => cases hp
        | ref n => cases hp
      · cases e
    · cases e
  | [], _, e => simp [bltD] at e
  | _ :: _ :: _, _, e => simp [bltD] at e
theorem blt_abs : CallR X (.builtin "abs") (rB X.K X.w .abs) := by
  intro pins s σ H xs us Q I r ⟨ds, d, j, m, rl, wd, e, q⟩
  unfold bltD at e
  split at e <;> first | (rename_i h; cases h) | skip
  all_goals try cases e
  obtain ⟨v, rfl, rv⟩ := rl.one
  simp only [Rep] at rv; subst rv
  exact call_abs pins s σ H _ us Q I r ⟨_, rfl, q _ H same_refl (by simp only [Rep])⟩
theorem blt_max2 (G : Gx X) : CallR X (.builtin "max") (rB X.K X.w .max2) := by
  intro pins s σ H xs us Q I r ⟨ds, d, j, m, rl, wd, e, q⟩
  unfold bltD at e
  split at e <;> first | (rename_i h; cases h) | skip
  all_goals try cases e
  obtain ⟨v, u, rfl, rv, ru⟩ := rl.two
  simp only [Rep] at rv ru; subst rv ru
  exact call_max2 G.calm pins s σ H _ us Q I r ⟨_, _, rfl, q _ H same_refl (by simp only [Rep])⟩
theorem blt_min2 (G : Gx X) : CallR X (.builtin "min") (rB X.K X.w .min2) := by
  intro pins s σ H xs us Q I r ⟨ds, d, j, m, rl, wd, e, q⟩
  unfold bltD at e
  split at e <;> first | (rename_i h; cases h) | skip
  all_goals try cases e
  obtain ⟨v, u, rfl, rv, ru⟩ := rl.two
  simp only [Rep] at rv ru; subst rv ru
  exact call_min2 G.calm pins s σ H _ us Q I r ⟨_, _, rfl, q _ H same_refl (by simp only [Rep])⟩
theorem blt_divmod : CallR X (.builtin "divmod") (rB X.K X.w .divmod) := by
  intro pins s σ H xs us Q I r ⟨ds, d, j, m, rl, wd, e, q⟩
  unfold bltD at e
  split at e <;> first | (rename_i h; cases h) | skip
  all_goals try cases e
  split at e
  · rename_i hc
    cases e
    obtain ⟨v, u, rfl, rv, ru⟩ := rl.two
    simp only [Rep] at rv ru; subst rv ru
    exact call_divmod pins s σ H _ us Q I r ⟨_, _, rfl, hc, fun p hp => q _ _ (Same.new hp) (rep_tup wd hp (RepL.cons (by simp only [Rep]) (RepL.cons (by simp only [Rep]) .nil)))⟩
  · cases e
theorem bls_rep {K : PySem.W.Frag} {w : World} {H : Hp} {j : J} : ∀ {xs : List D} {bs : List Bool} {vs : List V}, blsOf xs = some bs → RepL K w H j xs vs → vs = bs.map V.bl
  | [], bs, vs, e, rl => by simp only [blsOf] at e; cases e; simp only [RepL] at rl; exact rl
  | .bl b :: xs, bs, vs, e, rl => by
    simp only [blsOf] at e
    obtain ⟨r, e1, rfl⟩ := Option.map_eq_some_iff.mp e
    simp only [RepL] at rl
    obtain ⟨v, vr, rfl, rv, rr⟩ := rl
    simp only [Rep] at rv
    rw [rv, bls_rep e1 rr]; rfl
  | .non :: _, _, _, e, _ => by cases e
  | .int _ :: _, _, _, e, _ => by cases e
  | .str _ :: _, _, _, e, _ => by cases e
  | .tup _ :: _, _, _, e, _ => by cases e
  | .lst _ :: _, _, _, e, _ => by cases e
  | .dct _ _ :: _, _, _, e, _ => by cases e
  | .wdc _ _ :: _, _, _, e, _ => by cases e
  | .ref _ :: _, _, _, e, _ => by cases e
theorem blt_all (G : Gx X) : CallR X (.builtin "all") (rB X.K X.w .all) := by
  intro pins s σ H xs us Q I r ⟨ds, d, j, m, rl, wd, e, q⟩
  unfold bltD at e
  split at e <;> first | (rename_i h; cases h) | skip
  all_goals try cases e
  obtain ⟨bs, e1, rfl⟩ := Option.map_eq_some_iff.mp e
  obtain ⟨v, rfl, rv⟩ := rl.one
  simp only [Rep] at rv
  obtain ⟨a, vs, rfl, _, hq, rl⟩ := rv
  have := bls_rep e1 rl
  subst this
  exact cr_all G.calm pins s σ H _ us Q I r ⟨a, bs, rfl, .inl hq, q _ H same_refl (by simp only [Rep])⟩
theorem blt_any (G : Gx X) : CallR X (.builtin "any") (rB X.K X.w .any) := by
  intro pins s σ H xs us Q I r ⟨ds, d, j, m, rl, wd, e, q⟩
  unfold bltD at e
  split at e <;> first | (rename_i h; cases h) | skip
  all_goals try cases e
  obtain ⟨bs, e1, rfl⟩ := Option.map_eq_some_iff.mp e
  obtain ⟨v, rfl, rv⟩ := rl.one
  simp only [Rep] at rv
  obtain ⟨a, vs, rfl, _, hq, rl⟩ := rv
  have := bls_rep e1 rl
  subst this
  exact cr_any G.calm pins s σ H _ us Q I r ⟨a, bs, rfl, .inl hq, q _ H same_refl (by simp only [Rep])⟩
theorem blt_list : CallR X (.type "list") (rB X.K X.w .list) := by
  intro pins s σ H xs us Q I r ⟨ds, d, j, m, rl, wd, e, q⟩
  match ds, rl, e with
  | [x], rl, e =>
    obtain ⟨v, rfl, rv⟩ := rl.one
    simp only [bltD] at e
    obtain ⟨ys, ey, rfl⟩ := Option.map_eq_some_iff.mp e
    obtain ⟨a, vs, rfl, hq, rl'⟩ := items_of wd rv ey
    exact call_list_of pins s σ H _ us Q I r ⟨a, vs, rfl, hq, fun l hl => q _ _ (Same.new hl) (rep_lst wd hl rl')⟩
  | [], _, e => simp [bltD] at e
  | _ :: _ :: _, _, e => simp [bltD] at e
theorem blt_tuple : CallR X (.type "tuple") (rB X.K X.w .tuple) := by
  intro pins s σ H xs us Q I r ⟨ds, d, j, m, rl, wd, e, q⟩
  match ds, rl, e with
  | [x], rl, e =>
    obtain ⟨v, rfl, rv⟩ := rl.one
    simp only [bltD] at e
    obtain ⟨ys, ey, rfl⟩ := Option.map_eq_some_iff.mp e
    have go : ∀ {a : Addr} {vs : List V}, v = .ref a → SqL X.K H a vs → RepL X.K X.w H j ys vs → wpAny (model X.prog X.w) X.A (call (.type "tuple") us) (EP X pins σ Q) X.xe s := fun {a vs} ev hq rl' => by
      subst ev
      exact call_tuple_of pins s σ H _ us Q I r ⟨a, vs, rfl, .inl ⟨hq, fun l hl => q _ _ (Same.new hl) (rep_tup wd hl rl')⟩⟩
    cases x with
    | tup zs =>
      cases ey
      have rv' := rv
      simp only [Rep] at rv'
      obtain ⟨a, vs, rfl, hq, rl'⟩ := rv'
      exact call_tuple_of pins s σ H _ us Q I r ⟨a, vs, rfl, .inr ⟨tup_sq hq, q _ H same_refl rv⟩⟩
    | lst zs =>
      cases ey
      simp only [Rep] at rv
      obtain ⟨a, vs, rfl, _, hq, rl'⟩ := rv
      exact go rfl (.inl hq) rl'
    | ref n =>
      simp only [items] at ey
      simp only [Rep] at rv
      obtain ⟨a, rfl, h1⟩ := rv
      split at ey
      · rename_i zs hm
        cases ey
        obtain ⟨vs, q1, q2⟩ := wd.at_ _ a _ h1 hm
        exact go rfl (.of q1) q2
      · cases ey
    | _ => cases ey
  | [], _, e => simp [bltD] at e
  | _ :: _ :: _, _, e => simp [bltD] at e
/-! isinstance -/
def tyN (m : Sto) : D → Option String
  | .non => some "NoneType"
  | .bl _ => some "bool"
  | .int _ => some "int"
  | .str _ => some "str"
  | .tup _ => some "tuple"
  | .lst _ => some "list"
  | .dct _ _ => some "dict"
  | .wdc _ _ => some "dict"
  | .ref n => match m[n]? with
    | some (.lst _) => some "list"
    | some (.dct ..) => some "dict"
    | some (.tup _) => some "tuple"
    | some (.fdc ..) => some "dict"
    | none => none
def tyS : Ty → String
  | .tup => "tuple"
  | .str => "str"
  | .int => "int"
  | .bool => "bool"
  | .lst => "list"
  | .dct => "dict"
  | .non => "NoneType"
theorem kb : ∀ a ∈ ["NoneType", "bool", "int", "str", "tuple", "list", "dict"], ∀ b ∈ [Ty.tup, .str, .int, .bool, .lst, .dct], (kitB a (tyS b)).isSome = true := by decide +kernel
end
end Mp
end
section -- MpJ
set_option Elab.async false
set_option linter.all false
set_option maxRecDepth 100000
set_option maxHeartbeats 4000000
/-! Mp, part J: isinstance, methods, calls, defs. -/
namespace Mp
open PySem L2 PyProof.Rows
def isT (a : String) (t : Ty) : Bool := a == tyS t || (a == "bool" && tyS t == "int")
theorem kt : ∀ a ∈ ["NoneType", "bool", "int", "str", "tuple", "list", "dict"], ∀ b ∈ [Ty.tup, .str, .int, .bool, .lst, .dct], kitB a (tyS b) = some (isT a b) := by decide +kernel
theorem tyN_mem {m : Sto} {d : D} {a : String} (h : tyN m d = some a) : a ∈ ["NoneType", "bool", "int", "str", "tuple", "list", "dict"] := by
  cases d with
  | ref n =>
    simp only [tyN] at h
    split at h <;> first | cases h | skip
    all_goals decide
  | _ => cases h <;> decide
theorem isiD_T {m : Sto} {d : D} {a : String} {t : Ty} (h : tyN m d = some a) (ht : t ≠ .non) : isiD m d t = isT a t := by
  cases d with
  | ref n =>
    simp only [tyN] at h
    split at h
    · rename_i xs e
      cases h
      cases t <;> first | exact absurd rfl ht | (simp only [isiD, e]; decide)
    · rename_i ks ds e
      cases h
      cases t <;> first | exact absurd rfl ht | (simp only [isiD, e]; decide)
    · rename_i xs e
      cases h
      cases t <;> first | exact absurd rfl ht | (simp only [isiD, e]; decide)
    · rename_i ks ds e
      cases h
      cases t <;> first | exact absurd rfl ht | (simp only [isiD, e]; decide)
    · cases h
  | _ => cases h <;> cases t <;> first | exact absurd rfl ht | decide | (simp only [isiD]; decide)
theorem Ty.mem {t : Ty} (ht : t ≠ .non) : t ∈ [Ty.tup, .str, .int, .bool, .lst, .dct] := by cases t <;> first | exact absurd rfl ht | decide
theorem ty_rep {K : PySem.W.Frag} {w : World} {H : Hp} {j : J} {m : Sto} {d : D} {v : V} (wd : Wd K w H j m) (h : Rep K w H j d v) : ∃ a, tyN m d = some a ∧ TyX K H v (.type a) := by
  cases d with
  | non => simp only [Rep] at h; subst h; exact ⟨_, rfl, .base .non⟩
  | bl b => simp only [Rep] at h; subst h; exact ⟨_, rfl, .base (.bl _)⟩
  | int b => simp only [Rep] at h; subst h; exact ⟨_, rfl, .base (.int _)⟩
  | str b => simp only [Rep] at h; subst h; exact ⟨_, rfl, .base (.str _)⟩
  | tup xs =>
    simp only [Rep] at h
    obtain ⟨a, vs, rfl, q, _⟩ := h
    refine ⟨_, rfl, ?_⟩
    rcases q with ⟨_, q | ⟨o, q⟩⟩ | ⟨o, its, n, q1, q2, _⟩
    · exact .base (.tup q)
    · exact .fTuple q
    · exact .kTuple q1 q2
  | lst xs =>
    simp only [Rep] at h
    obtain ⟨a, vs, rfl, _, q, _⟩ := h
    refine ⟨_, rfl, ?_⟩
    rcases q with q | ⟨o, q⟩
    · exact .base (.lst q)
    · exact .base (.frz q)
  | dct ks ds =>
    simp only [Rep] at h
    obtain ⟨a, vs, rfl, _, q, _⟩ := h
    exact ⟨_, rfl, .base (.dK q)⟩
  | wdc ks ds =>
    simp only [Rep] at h
    obtain ⟨a, vs, rfl, ⟨⟨es, n, kd⟩, _⟩, _⟩ := h
    exact ⟨_, rfl, .kDict kd.at_ rfl⟩
  | ref n =>
    simp only [Rep] at h
    obtain ⟨a, rfl, q⟩ := h
    have hl : n < m.length := by rw [← wd.len]; exact (List.getElem?_eq_some_iff.mp q).1
    have at_ := wd.at_ n a _ q (List.getElem?_eq_getElem hl)
    simp only [tyN, List.getElem?_eq_getElem hl]
    cases hc : m[n] with
    | lst xs =>
      rw [hc] at at_
      obtain ⟨vs, q1, q2⟩ := at_
      exact ⟨_, rfl, .base (.lst q1)⟩
    | dct ks ds =>
      rw [hc] at at_
      obtain ⟨vs, q1, q2⟩ := at_
      exact ⟨_, rfl, .base (.dK q1)⟩
    | tup xs =>
      rw [hc] at at_
      obtain ⟨o, vs, q1, q2⟩ := at_
      exact ⟨_, rfl, .fTuple q1⟩
    | fdc ks ds =>
      rw [hc] at at_
      obtain ⟨o, vs, q1, q2⟩ := at_
      exact ⟨_, rfl, .fDict q1⟩
section
variable {X : Cx} {cA : Nat → Addr} {W : XK} {pos : Pos} {cl : Nat → List D → M D} {C : List D}
theorem s_isi {e : Expr} {e' : E} {x : Str} {t : Ty} {p p2 : Pos} (ht : t ≠ .non) (hv : bootBuiltins x = some (.type (tyS t))) (hg : Gl X "isinstance") (hm : X.mg "isinstance" = none) (hg2 : Gl X x) (hm2 : X.mg x = none) (he : PE X e (tE cA X.K X.w W (ev cl C e')))
    (hs : starEach [e, .Name x p2] X.env = (false, eval e X.env) :: starEach [.Name x p2] X.env := by rfl) (hs2 : starEach [.Name x p2] X.env = (false, eval (.Name x p2) X.env) :: starEach [] X.env := by rfl) (hpl : (backTo pos (starEach [.Name x p2] X.env)).any (·.1) = false := by rfl)
    (hn : x ≠ "__name__" := by decide) (hd : (x == ("__debug__" : Str)) = false := by decide) :
    PE X (.Call (.Name "isinstance" p) [e, .Name x p2] [] pos) (tE cA X.K X.w W (ev cl C (.isi e' t))) :=
  (pe_callB call_isi hg hm boot_isinstance (pa_cons he (pa_cons (pe_bltn (v := .ty (tyS t)) hg2 hm2 hv rfl hn hd) pa_nil hs2) hs) (by decide) (by decide) hs hpl).imp fun σ H Q ⟨r, m, j, rs, wd, h⟩ => by
    simp only [ev] at h
    refine ⟨r, m, j, rs, wd, (Pst.bnd h).mono fun d m1 H1 j1 e1 wd1 h1 v rv => ?_⟩
    obtain ⟨a, ea, ty⟩ := ty_rep wd1 rv
    refine ⟨v, .ty (tyS t), .type a, .type (tyS t), isiD m1 d t, rfl, .ty _, ty, ?_, Pst.ok h1 wd1 _ (by simp only [Rep])⟩
    rw [isiD_T ea ht]
    exact kit_ty (kt a (tyN_mem ea) t (Ty.mem ht))
/-! dict.get -/
theorem get_yes {K : PySem.W.Frag} {w : World} {H : Hp} {j : J} {k : Key} {ks : List Key} {ds : List D} {vs : List V} {d : D} {v : V} (hl : ks.length = vs.length) (rl : RepL K w H j ds vs) (rv : Rep K w H j d v) :
    Rep K w H j ((getK ks ds k).getD d) ((valV (ks.zip vs) k).getD v) := by
  have h := getK_rep (k := k) hl rl
  cases e : getK ks ds k with
  | none => rw [e] at h; rw [h]; exact rv
  | some x =>
    rw [e] at h
    obtain ⟨z, e1, e2⟩ := h
    rw [e1]; exact e2
theorem kd_get {es : Array DictEntry} {n : Nat} {a : Addr} {pins : List (Addr × Obj)} {σ : L2.St} {H : Hp} {s : Shared} {z : Str} {t : Tok} {dv : Value} {o : Option Value} {Q : Value → Shared → Prop} {E : Value → Shared → Prop} (kd : KDict X.K X.w a es n) (I : Inv X pins σ H s) (e : PySem.W.nsIn X.K a z = some o)
    (h : Q (o.getD dv) { s with toks := s.toks + 1 }) : wpAny (model X.prog X.w) X.A (call (.builtin "dict.get") [.ref a, .str z t, dv]) Q E s := by
  have mp := PySem.W.mapOf_K (prog := X.prog) (w := X.w) I.kIn kd.at_ kd.lit
  refine call_meetsIn PySem.F.slot_dict_get mp.typeIs PySem.F.entry_dict_get (PySem.F.args_dict_get_3 _ _ _) (meets_dict_get_default (PySem.strKind X.prog X.w) a (PySem.strKind_is X.prog X.w z t) kd.low dv) ⟨_, mp, ?_⟩
  rw [PySem.W.find_K kd.at_ e]
  exact h
end
end Mp
end
section -- MpK
set_option Elab.async false
set_option linter.all false
set_option maxRecDepth 100000
set_option maxHeartbeats 4000000
/-! Mp, part K: methods, calls, defs. -/
namespace Mp
open PySem L2 PyProof.Rows
def Es.len : Es → Nat
  | .n => 0
  | .c _ r => r.len + 1
section
variable {X : Cx} {cA : Nat → Addr} {W : XK} {pos : Pos} {cl : Nat → List D → M D} {C : List D}
theorem Pst.rec {K : PySem.W.Frag} {w : World} {H : Hp} {j : J} {k : Unit → Sto → Hp → J → Prop} {b : Met} {d : D} {m : Sto} (h : Pst cA K w W H j k (recM b d m)) : recOk m b d = true ∧ Pst cA K w W H j k (.ok () m) := by
  unfold recM at h
  by_cases e : recOk m b d = true
  · rw [if_pos e] at h; exact ⟨e, h⟩
  · rw [if_neg e] at h; exact h.elim
theorem s_get2 {o e f : Expr} {o' e' f' : E} {apos cpos : Pos} (k : Kit X W) (ho : PE X o (tE cA X.K X.w W (ev cl C o'))) (he : PE X e (tE cA X.K X.w W (ev cl C e'))) (hf : PE X f (tE cA X.K X.w W (ev cl C f')))
    (base : attributeBase o "get" X.env (eval o X.env) = eval o X.env := by rfl)
    (few : ((backTo cpos (starEach [e, f] X.env)).all (fun x => !x.1) && (backToKw cpos (keywordEach [] X.env)).all (fun x => x.1.isSome)
      && decide (([e, f] : List Expr).length + ([] : List Keyword).length + (if ([] : List Keyword).isEmpty then 0 else 1) < 30)) = true := by rfl)
    (line : (apos.endLine == cpos.line) = true := by rfl)
    (trees : backTo cpos (starEach [e, f] X.env) = [(false, eval e X.env), (false, eval f X.env)] := by rfl) :
    PE X (.Call (.Attribute o "get" apos) [e, f] [] cpos) (tE cA X.K X.w W (ev cl C (.met .get2 o' (.c e' (.c f' .n))))) := by
  refine ⟨fun pins s σ H Q I ⟨r, m, j, rs, wd, h⟩ => ?_⟩
  simp only [ev] at h
  have hu := k.gx.un
  refine wpAny_Call_method base few line PySem.F.plainAttrs_dict PySem.F.slot_dict_get PySem.F.type_dict_get (thn (ho.run pins s σ H (fun v H1 => ∃ d m1 j1, Rep X.K X.w H1 j1 d v ∧ Wd X.K X.w H1 j1 m1 ∧ RS X.K X.w H1 j1 σ r ∧ recOk m1 .get2 d = true ∧
    Pst cA X.K X.w W H1 j1 (fun d _ H' j' => ∀ v, Rep X.K X.w H' j' d v → Q v H') (((evs cl C (.c e' (.c f' .n)) r).bnd fun ds => metM .get2 d ds) m1)) I ⟨r, m, j, rs, wd, (Pst.bnd h).mono fun d m1 H1 j1 e1 wd1 h1 v rv => by
      obtain ⟨q1, q2⟩ := (Pst.bnd h1).rec
      exact ⟨d, m1, j1, rv, wd1, rs.ext e1, q1, Pst.ok q2 wd1⟩⟩)
    fun u s1 ⟨v, H1, I1, ru, d, m1, j1, rv, wd1, rs1, q1, h1⟩ => ?_)
  have isd : ∃ a, v = .ref a ∧ s1.TypeIs (.ref a) "dict" ∧ (∀ b, Value.ref a = .ref b → ∃ ob, s1.heap.get? b = some ob ∧ ob.dict = none) := by
    cases d with
    | dct ks ds =>
      simp only [Rep] at rv
      obtain ⟨a, vs, rfl, _, h1, h2, h3⟩ := rv
      obtain ⟨t1, t2, _⟩ := isD_at I1 (a := a) (.inl ⟨_, .inl h1⟩)
      exact ⟨a, rfl, t1, t2⟩
    | wdc ks ds =>
      simp only [Rep] at rv
      obtain ⟨a, vs, rfl, ⟨⟨es, n, kd⟩, _⟩, h2⟩ := rv
      exact ⟨a, rfl, kd_type kd I1, fun b e => by cases e; exact ⟨_, I1.kIn _ _ kd.at_, rfl⟩⟩
    | _ => exact absurd q1 (by simp [recOk])
  obtain ⟨a, rfl, t1, t2⟩ := isd
  obtain rfl : u = Value.ref a := ru
  refine ⟨t1, t2, ?_⟩
  rw [trees]
  simp only [evs] at h1
  refine Calls.callWith_builtin rfl (Calls.evalArgs_plain (Calls.spliced_cons (thn (he.run pins s1 σ H1 (fun y H2 => ∃ dk m2 j2, Rep X.K X.w H2 j2 d (.ref a) ∧ Rep X.K X.w H2 j2 dk y ∧ Wd X.K X.w H2 j2 m2 ∧ RS X.K X.w H2 j2 σ r ∧
    Pst cA X.K X.w W H2 j2 (fun x m3 H3 j3 => Pst cA X.K X.w W H3 j3 (fun d _ H' j' => ∀ v, Rep X.K X.w H' j' d v → Q v H') (metM .get2 d [dk, x] m3)) (ev cl C f' r m2)) I1 ⟨r, m1, j1, rs1, wd1, (Pst.bnd (Pst.bnd h1)).mono fun dk m2 H2 j2 e2 wd2 h2 y ry =>
      ⟨dk, m2, j2, rv.ext e2, ry, wd2, rs1.ext e2, (Pst.bnd (Pst.bnd h2)).mono fun x m3 H3 j3 e3 wd3 h3 => Pst.ret (Pst.ok h3 wd3) wd3⟩⟩)
      fun iv s2 ⟨y, H2, I2, ry, dk, m2, j2, rv2, rk2, wd2, rs2, h2⟩ =>
    Calls.spliced_cons (thn (hf.run pins s2 σ H2 (fun z H3 => ∃ x m3 j3, Rep X.K X.w H3 j3 d (.ref a) ∧ Rep X.K X.w H3 j3 dk y ∧ Rep X.K X.w H3 j3 x z ∧ Wd X.K X.w H3 j3 m3 ∧
      Pst cA X.K X.w W H3 j3 (fun d _ H' j' => ∀ v, Rep X.K X.w H' j' d v → Q v H') (metM .get2 d [dk, x] m3)) I2 ⟨r, m2, j2, rs2, wd2, h2.mono fun x m3 H3 j3 e3 wd3 h3 z rz => ⟨x, m3, j3, rv2.ext e3, rk2.ext e3, rz, wd3, h3⟩⟩)
      fun fv s3 ⟨z, H3, I3, rz, x, m3, j3, rv3, rk3, rx3, wd3, h3⟩ => Calls.spliced_nil ?_))))
  have em : ∃ q, metD m3 .get2 d [dk, x] = some q ∧ ∀ v, Rep X.K X.w H3 j3 q v → Q v H3 := by
    unfold metM at h3
    cases e : metD m3 .get2 d [dk, x] with
    | none => simp only [e] at h3; exact h3.elim
    | some q => simp only [e] at h3; exact ⟨q, rfl, Pst.ok h3 wd3⟩
  obtain ⟨q, em, hq⟩ := em
  cases d with
  | dct ks ds =>
    simp only [metD] at em
    obtain ⟨k', e1, rfl⟩ := Option.map_eq_some_iff.mp em
    simp only [Rep] at rv3
    obtain ⟨_, vs, ea, _, q1, q2, q3⟩ := rv3
    cases ea
    have := dKey_rep e1 rk3
    subst this
    exact d_get2 (by omega) I3 (DGet.k q1) ry rz fun w' s4 I4 rw' => ⟨_, H3, I4, rw', hq _ (get_yes q2 q3 rx3)⟩
  | wdc ks ds =>
    cases dk with
    | str z' =>
      simp only [metD, Option.some.injEq] at em
      subst em
      simp only [Rep] at rv3 rk3
      subst rk3
      obtain ⟨t, rfl⟩ := ry
      obtain ⟨_, vs, ea, ⟨⟨es, n, kd⟩, k1, k2, k3, k4, k5⟩, q3⟩ := rv3
      cases ea
      cases eg : getK ks ds (.inr z') with
      | none =>
        rw [eg] at hq
        exact kd_get kd I3 (k2 z' (getK_no (by rw [q3.length, k5]) eg)) ⟨z, H3, I3.tok _, rz, hq _ rx3⟩
      | some d' =>
        rw [eg] at hq
        obtain ⟨u0, z0, e1, e2, e3⟩ := getK_wr k5 q3 k1 d' eg
        exact kd_get kd I3 e1 ⟨z0, H3, I3.tok _, e2, hq _ e3⟩
    | _ => simp [metD] at em
  | _ => exact absurd q1 (by simp [recOk])
/-- xs.append(x) -/
theorem s_app {o e : Expr} {o' e' : E} {apos cpos : Pos} (ho : PE X o (tE cA X.K X.w W (ev cl C o'))) (he : PE X e (tE cA X.K X.w W (ev cl C e')))
    (hbase : attributeBase o "append" X.env (eval o X.env) = eval o X.env := by rfl)
    (hfew : ((backTo cpos (starEach [e] X.env)).all (fun x => !x.1) && (backToKw cpos (keywordEach [] X.env)).all (fun x => x.1.isSome)
      && decide (([e] : List Expr).length + ([] : List Keyword).length + (if ([] : List Keyword).isEmpty then 0 else 1) < 30)) = true := by rfl)
    (hline : (apos.endLine == cpos.line) = true := by rfl) (hs : starEach [e] X.env = (false, eval e X.env) :: starEach [] X.env := by rfl) (hpl : (backTo cpos (starEach [] X.env)).any (·.1) = false := by rfl) :
    PE X (.Call (.Attribute o "append" apos) [e] [] cpos) (tE cA X.K X.w W (ev cl C (.met .append o' (.c e' .n)))) :=
  (pe_bm PySem.F.plainAttrs_list PySem.F.slot_list_append PySem.F.type_list_append mt_append ho (pa_cons he pa_nil hs) hbase hfew hline hs hpl).imp fun σ H Q ⟨r, m, j, rs, wd, h⟩ => by
    simp only [ev, evs] at h
    refine ⟨r, m, j, rs, wd, (Pst.bnd h).mono fun d m1 H1 j1 e1 wd1 h1 v rv => ?_⟩
    obtain ⟨q1, q2⟩ := (Pst.bnd h1).rec
    have q2 := Pst.ok q2 wd1
    cases d with
    | ref n =>
      simp only [Rep] at rv
      obtain ⟨a, rfl, hj⟩ := rv
      simp only [recOk] at q1
      split at q1
      · rename_i xs hm
        obtain ⟨vs, q3, q4⟩ := wd1.at_ n a _ hj hm
        refine ⟨.inl ⟨rfl, vs, .of q3⟩, r, m1, j1, rs.ext e1, wd1, (Pst.bnd (Pst.bnd q2)).mono fun x m2 H2 j2 e2 wd2 h2 u ru => ?_⟩
        have h2 := Pst.ok h2 wd2
        have hj2 := e2.ix hj
        unfold metM appD at h2
        simp only at h2
        split at h2
        · rename_i ys hm2
          split at h2
          · rename_i hl
            obtain ⟨us, q5, q6⟩ := wd2.at_ n a _ hj2 hm2
            refine ⟨a, us, u, rfl, rfl, q5, by rw [← q6.length]; exact hl, ?_⟩
            obtain ⟨e3, wd3⟩ := wd2.put (o := .lst (us ++ [u])) (c := .lst (ys ++ [x])) q5 no_lst hj2 ⟨us ++ [u], upd_same, (q6.append (RepL.cons ru .nil)).wx ⟨⟨[], by simp⟩, fun b o hb q => by rw [upd_ne (fun z => hb (by rw [z]; exact .inl (List.mem_of_getElem? hj2)))]; exact q, fun b hb => .inl hb, frz_upd q5 no_lst⟩⟩
            exact h2 _ _ e3 wd3 _ (by simp only [Rep])
          · exact h2.elim
        · exact h2.elim
      · cases q1
    | _ => exact absurd q1 (by simp [recOk])
/-! [::-1] -/
theorem s_rev {e : Expr} {e' : E} {kk : Nat} {p1 p2 p3 : Pos} (k : Kit X W) (he : PE X e (tE cA X.K X.w W (ev cl C e'))) : PE X (.Subscript e (.Slice none none (some (.UnaryOp .USub (.Constant (.int 1) kk p1) p2)) p3) pos) (tE cA X.K X.w W (ev cl C (.rev e'))) := by
  refine ⟨fun pins s σ H Q I ⟨r, m, j, rs, wd, h⟩ => ?_⟩
  simp only [ev] at h
  refine Subscript_ (thn (he.run pins s σ H (fun v H1 => ∃ d m1 j1 x, Rep X.K X.w H1 j1 d v ∧ Wd X.K X.w H1 j1 m1 ∧ revD m1 d = some x ∧ ∀ z H', Same H1 H' → Rep X.K X.w H' j1 x z → Q z H') I ⟨r, m, j, rs, wd, (Pst.bnd h).mono fun d m1 H1 j1 e1 wd1 h1 v rv => by
    obtain ⟨x, e, h1⟩ := h1.optM
    exact ⟨d, m1, j1, x, rv, wd1, e, fun z H' s hz => h1 H' j1 (.of_same s) (wd1.same s) z hz⟩⟩) fun v s1 ⟨x, H1, I1, r1, d, m1, j1, d', rv, wd1, er, q⟩ => ?_)
  have hst : PO X (some (.UnaryOp .USub (.Constant (.int 1) kk p1) p2)) (tPart (tUn (rU fun i => .int (-i)) (tC (.int 1)))) := po_some (pe_un un_neg pe_int)
  refine wpAny_Slice (thn (po_none.run pins s1 σ H1 (fun o H2 => o = none ∧ H2 = H1) I1 ⟨rfl, rfl⟩) fun vl s2 ⟨l, H2, I2, pl, el, e2⟩ => ?_)
  subst el e2
  refine thn (po_none.run pins s2 σ H2 (fun o H3 => o = none ∧ H3 = H2) I2 ⟨rfl, rfl⟩) fun vu s3 ⟨u, H3, I3, pu, eu, e3⟩ => ?_
  subst eu e3
  refine thn (hst.run pins s3 σ H3 (fun o H4 => o = some (-1) ∧ H4 = H3) I3 ⟨1, rfl, -1, rfl, rfl, rfl⟩) fun vs s4 ⟨o, H4, I4, ps, eo, e4⟩ => ?_
  subst eo e4
  have I5 : Inv X pins σ H4 { s4 with heap := s4.heap.push { cls := .type "slice", data := .fields #[vl, vu, vs] } } := I4.kept (t' := s4.toks) fun b ob q => Heap.get?_push_of_some _ q
  have lst : ∀ {a : Addr} {xs : List D} {ws : List V}, SqL X.K H4 a ws → RepL X.K X.w H4 j1 xs ws → d' = .lst xs.reverse → wpAny (model X.prog X.w) X.A (subscriptTail e (.Slice none none (some (.UnaryOp .USub (.Constant (.int 1) kk p1) p2)) p3) (.ref a) (.ref s4.heap.objs.size)) (EP X pins σ Q) X.xe { s4 with heap := s4.heap.push { cls := .type "slice", data := .fields #[vl, vu, vs] } } := fun {a xs ws} hq rl ed => by
    obtain ⟨its, r, ht, hz⟩ := I5.list hq
    have hlen := r.length
    refine tail_any (ops := [.ref a, .ref s4.heap.objs.size]) ht.isList.typeIs (PySem.slot_list_getitem.lookup) ?_ (by with_unfolding_all rfl)
    refine wpAny_getItem_list_slice ht.isList (Heap.IsSliceOf.new _ vl vu vs) pl pu ps (by decide) ?_ (by rw [List.size_toArray]; omega)
    rw [PySem.W.krv_pick]
    have hf := I5.hok.fresh (Nat.le_refl _)
    refine ⟨.ref _, _, I5.laid (t' := s4.toks) (o := .lst ws.reverse) (fun b ob q => Heap.get?_push_of_some _ q) (Nat.le_refl _) ?_, rfl, q _ _ (Same.new hf) (by rw [ed]; exact rep_lst wd1 hf rl.reverse)⟩
    exact ⟨by rw [List.length_reverse]; exact hz, _, 0, r.reverse, Heap.get?_push_size _ rfl⟩
  show wpAny (model X.prog X.w) X.A (subscriptTail e (.Slice none none (some (.UnaryOp .USub (.Constant (.int 1) kk p1) p2)) p3) v (.ref s4.heap.objs.size)) (EP X pins σ Q) X.xe { s4 with heap := s4.heap.push { cls := .type "slice", data := .fields #[vl, vu, vs] } }
  cases d with
  | tup xs =>
    simp only [revD, Option.some.injEq] at er
    simp only [Rep] at rv
    obtain ⟨a, ws, rfl, hq, rl⟩ := rv
    cases r1
    obtain ⟨its, r, ht, hz⟩ := I5.tuple (tup_sq hq)
    have hlen := r.length
    have hf := I5.hok.fresh (Nat.le_refl _)
    refine tail_any (ops := [.ref a, .ref s4.heap.objs.size]) (IsTup.typeIs ht) (PyProof.Rows.slot_tuple_getitem.lookup) ?_ (by with_unfolding_all rfl)
    refine getItem_tuple_rev ht (Heap.IsSliceOf.new _ vl vu vs) pl pu ps ?_ (by omega)
    refine ⟨.ref _, _, I5.laid (t' := s4.toks) (o := .tup ws.reverse) (fun b ob q => Heap.get?_push_of_some _ q) (Nat.le_refl _) ?_, rfl, q _ _ (Same.new hf) (by rw [← er]; exact rep_tup wd1 hf rl.reverse)⟩
    exact ⟨by rw [List.length_reverse]; exact hz, _, r.reverse, ⟨_, Heap.get?_push_size _ rfl, rfl, _, rfl⟩⟩
  | lst xs =>
    simp only [revD, Option.some.injEq] at er
    simp only [Rep] at rv
    obtain ⟨a, ws, rfl, _, hq, rl⟩ := rv
    cases r1
    exact lst (.inl hq) rl er.symm
  | ref n =>
    simp only [revD] at er
    simp only [Rep] at rv
    obtain ⟨a, rfl, h1⟩ := rv
    cases r1
    split at er
    · rename_i xs hm
      cases er
      obtain ⟨ws, q1, q2⟩ := wd1.at_ n a _ h1 hm
      exact lst (.of q1) q2 rfl
    · cases er
  | _ => simp [revD] at er
end
end Mp
end
section -- MpL
set_option Elab.async false
set_option linter.all false
set_option maxRecDepth 100000
set_option maxHeartbeats 4000000
/-! Mp, part L: displays of constants, calls, defs. -/
namespace Mp
open PySem L2 PyProof.Rows
section
variable {X : Cx} {cA : Nat → Addr} {W : XK} {pos : Pos} {cl : Nat → List D → M D} {C : List D}
/-! a dict display of constants -/
theorem tPairs_c : ∀ {kvs : List (V × V)} {σ : L2.St} {H : Hp} {Q : List (V × V) → Hp → Prop}, Q kvs H → tPairs (kvs.map fun p => (tC p.1, tC p.2)) σ H Q
  | [], _, _, _, h => h
  | p :: kvs, σ, H, Q, h => tPairs_c (kvs := kvs) (σ := σ) (H := H) (Q := fun ps H3 => Q ((p.1, p.2) :: ps) H3) h
theorem s_dcst {keys : List (Option Expr)} {values : List Expr} {kvs : List (Key × V)} {ks : List Key} {vs : List V} {ds : List D} (h : PPs X pos keys values ((kvs.map fun kv => (kV kv.1, kv.2)).map fun p => (tC p.1, tC p.2))) (hall : keys.all (·.isSome) = true := by rfl) (hl : keys.length = values.length := by rfl) (h0 : keys ≠ [] := by simp)
    (h15 : keys.length ≤ 15 := by decide) (hz : kvs.length ≤ 15 := by decide) (hm : mergeK [] kvs = ks.zip vs := by rfl) (hlen : ks.length = vs.length := by rfl) (hr : ∀ H j, RepL X.K X.w H j ds vs) : PE X (.Dict keys values pos) (tE cA X.K X.w W (ev cl C (.cst (.dct ks ds)))) :=
  (pe_disp h hall hl h0 h15).imp fun σ H Q ⟨r, m, j, rs, wd, h⟩ => by
    simp only [ev] at h
    refine fun p hp => tPairs_c ⟨upd_same, kvs, rfl, hz, ?_⟩
    rw [upd_upd, hm]
    refine h _ _ (Ext.new1 hp) (wd.same (Same.new hp)) _ ?_
    simp only [Rep]
    exact ⟨p, vs, rfl, fun z => (by obtain ⟨o, q⟩ := wd.there' z; rw [hp] at q; cases q), upd_same, hlen, hr _ _⟩
theorem s_dnil : PE X (.Dict [] [] pos) (tE cA X.K X.w W (ev cl C (.cst (.dct [] [])))) :=
  pe_dnewK.imp fun σ H Q ⟨r, m, j, rs, wd, h⟩ => by
    simp only [ev] at h
    refine fun p hp => h _ _ (Ext.new1 hp) (wd.same (Same.new hp)) _ ?_
    simp only [Rep]
    exact ⟨p, [], rfl, fun z => (by obtain ⟨o, q⟩ := wd.there' z; rw [hp] at q; cases q), upd_same, rfl, .nil⟩
/-! calls -/
/-- what a def promises: as run has it -/
def spI (cA : Nat → Addr) (K : PySem.W.Frag) (w : World) (cl : Nat → List D → M D) (i np : Nat) : Sp := fun vs H Q E => vs.length = np ∧ ∃ ds m j, RepL K w H j ds vs ∧ Wd K w H j m ∧ Pst cA K w E H j (fun d _ H' j' => ∀ v, Rep K w H' j' d v → Q v H') (cl i ds m)
theorem evs_len : ∀ {es : Es} {r : Env} {m : Sto} {ds : List D} {m' : Sto}, evs cl C es r m = .ok ds m' → ds.length = es.len
  | .n, r, m, ds, m', h => by simp only [evs] at h; cases h; rfl
  | .c e es, r, m, ds, m', h => by
    simp only [evs] at h
    obtain ⟨d, m1, _, h⟩ := bnd_ok h
    obtain ⟨dr, m2, h2, h⟩ := bnd_ok h
    cases h
    rw [List.length_cons, evs_len h2, Es.len]
theorem Pst.pure {α : Type} {K : PySem.W.Frag} {w : World} {H : Hp} {j : J} {k : α → Sto → Hp → J → Prop} {r : R α} (h : Pst cA K w W H j k r) : Pst cA K w W H j (fun a m H' j' => r = .ok a m ∧ k a m H' j') r := by
  cases r with
  | ok a m => exact fun H' j' e wd => ⟨rfl, h H' j' e wd⟩
  | exc x m => exact h
  | bad => exact h
theorem s_call {f : Addr} {fd : FuncData} {ps : List Str} {n i : Nat} {x : Str} {p : Pos} {e : Expr} {es : List Expr} {es' : Es} {dvs : List V} {dd : List D} (k : Kit X W) (F : FnG X.prog X.w X.K X.mg X.base n f fd ps (spI cA X.K X.w cl i ps.length)) (hr : Room n X.A) (hg : Gl X x) (hm : X.mg x = some (.ref f)) (hk : PySem.W.keepIn X.K (.ref f) = true)
    (hb : ∃ ds, Vals dvs ds ∧ Binds X.K fd ps ds) (hdd : ∀ H j, RepL X.K X.w H j dd dvs) (hlen : es'.len + dd.length = ps.length) (hcl : ∀ ds : List D, ds.length = es'.len → cl i ds = cl i (ds ++ dd))
    (ha : PA X (e :: es) (tL cA X.K X.w W (evs cl C es'))) (hdb : (x == ("__debug__" : Str)) = false := by decide) (he : starEach (e :: es) X.env = (false, eval e X.env) :: starEach es X.env := by rfl) (hpl : (backTo pos (starEach es X.env)).any (·.1) = false := by rfl) :
    PE X (.Call (.Name x p) (e :: es) [] pos) (tE cA X.K X.w W (ev cl C (.call i es'))) := by
  refine ⟨fun pins s σ H Q I ⟨r, m, j, rs, wd, h⟩ => ?_⟩
  simp only [ev] at h
  refine wpAny_Call_Name_kw (ld_glob I hg hm ?_ hdb)
  refine PySem.W.callWith_K (h₀ := X.base) I.ok.mod.kin hk (thn (ha.run pos pins s σ H (fun vs H1 => ∃ ds m1 j1, RepL X.K X.w H1 j1 ds vs ∧ Wd X.K X.w H1 j1 m1 ∧ ds.length = es'.len ∧ Pst cA X.K X.w W H1 j1 (fun d _ H' j' => ∀ v, Rep X.K X.w H' j' d v → Q v H') (cl i ds m1)) I
    ⟨r, m, j, rs, wd, (Pst.bnd h).pure.mono fun ds m1 H1 j1 e1 wd1 ⟨h0, h1⟩ vs rvs => ⟨ds, m1, j1, rvs, wd1, evs_len h0, h1⟩⟩) fun us s1 ⟨vs, H1, I1, rv, ds, m1, j1, rl, wd1, hl, hp⟩ => ⟨I1.kIn, ?_⟩) he hpl
  obtain ⟨dds, rd, hbd⟩ := hb
  have hld := (hdd H1 j1).length
  have hl2 : (us ++ dds).length = ps.length := by
    rw [List.length_append, ← rv.length, ← rl.length, ← rd.length, ← hld, hl]; exact hlen
  refine wpAny_call (run_g F hr k.gx.gd (args := ⟨us, []⟩) (us := us ++ dds) (vs := vs ++ dvs) (hbd s1 us I1.kIn hl2) (fun e s' hc => k.esc pins σ H1 s1 e s' I1 hc) I1 (rv.append rd) ⟨?_, ds ++ dd, m1, j1, rl.append (hdd _ _), wd1, by rw [← hcl ds hl]; exact hp⟩)
  rw [List.length_append, ← rl.length, ← hld, hl]; exact hlen
theorem k_nil : PK X [] (tL cA X.K X.w W (evs cl C .n)) := ⟨fun pos pins s σ H Q I ⟨r, m, j, rs, wd, h⟩ => pk_nil.run pos pins s σ H Q I (by simp only [evs] at h; exact Pst.ret h wd [] .nil)⟩
theorem k_cons {e : Expr} {kws : List Keyword} {nm : Option Str} {kpos : Pos} {e' : E} {es' : Es} (h1 : PE X e (tE cA X.K X.w W (ev cl C e'))) (h2 : PK X kws (tL cA X.K X.w W (evs cl C es'))) : PK X (⟨nm, e, kpos⟩ :: kws) (tL cA X.K X.w W (evs cl C (.c e' es'))) :=
  ⟨fun pos pins s σ H Q I ⟨r, m, j, rs, wd, h⟩ => (pk_cons h1 h2).run pos pins s σ H Q I (by
    simp only [evs] at h
    refine ⟨r, m, j, rs, wd, (Pst.bnd h).mono fun d m1 H1 j1 e1 wd1 h1 v rv => ?_⟩
    refine ⟨r, m1, j1, rs.ext e1, wd1, (Pst.bnd h1).mono fun ds m2 H2 j2 e2 wd2 h2 vs rvs => ?_⟩
    exact Pst.ret h2 wd2 _ (RepL.cons (rv.ext e2) rvs))⟩
/-- two keywords, no values ahead -/
theorem arr_rep {K : PySem.W.Frag} {w : World} {H : Hp} {j : J} {ds : List D} {vs : List V} (rl : RepL K w H j ds vs) : ∀ {pm : List Nat} {xs : List D}, arrange ds pm = some xs → RepL K w H j xs (pm.filterMap fun i => vs[i]?) ∧ xs.length = pm.length
  | [], xs, e => by simp only [arrange] at e; cases e; exact ⟨.nil, rfl⟩
  | i :: pm, xs, e => by
    simp only [arrange] at e
    split at e
    · rename_i v l e1 e2
      cases e
      obtain ⟨u, q1, q2⟩ := rl.get e1
      obtain ⟨q3, q4⟩ := arr_rep rl e2
      refine ⟨?_, by rw [List.length_cons, List.length_cons, q4]⟩
      rw [List.filterMap_cons, q1]
      exact RepL.cons q2 q3
    · cases e
theorem vals_pick {vs : List V} {us : List Value} (r : Vals vs us) : ∀ {pm : List Nat}, Vals (pm.filterMap fun i => vs[i]?) (pm.filterMap fun i => us[i]?)
  | [] => .nil
  | i :: pm => by
    rw [List.filterMap_cons, List.filterMap_cons]
    cases e : vs[i]? with
    | some v =>
      obtain ⟨u, hu, ru⟩ := r.get e
      rw [hu]
      exact .cons ru (vals_pick r)
    | none =>
      have : us[i]? = none := by
        rw [List.getElem?_eq_none_iff] at e ⊢
        rw [← r.length]; exact e
      rw [this]
      exact vals_pick r
theorem s_calk {f : Addr} {fd : FuncData} {ps ks : List Str} {n i : Nat} {x : Str} {p : Pos} {kws : List Keyword} {es' : Es} {pm : List Nat} (k : Kit X W) (F : FnG X.prog X.w X.K X.mg X.base n f fd ps (spI cA X.K X.w cl i ps.length)) (hr : Room n X.A) (hg : Gl X x) (hm : X.mg x = some (.ref f)) (hk : PySem.W.keepIn X.K (.ref f) = true)
    (hb : ∀ (s : Shared) (us : List Value), us.length = ks.length → BindsTo s fd ⟨[], ks.zip us⟩ (ps.zip (pm.filterMap fun i => us[i]?))) (hlen : es'.len = ks.length) (hpm : pm.length = ps.length)
    (ha : PK X kws (tL cA X.K X.w W (evs cl C es'))) (hall : (backToKw pos (keywordEach kws X.env)).all (·.1.isSome) = true := by rfl) (hks : (backToKw pos (keywordEach kws X.env)).filterMap (·.1) = ks := by rfl)
    (hdb : (x == ("__debug__" : Str)) = false := by decide) (hpl : ((backTo pos (starEach [] X.env)).any (·.1) || (backToKw pos (keywordEach kws X.env)).any (·.1.isNone)) = false := by rfl) :
    PE X (.Call (.Name x p) [] kws pos) (tE cA X.K X.w W (ev cl C (.calk i .n es' pm))) := by
  refine ⟨fun pins s σ H Q I ⟨r, m, j, rs, wd, h⟩ => ?_⟩
  simp only [ev, evs] at h
  have h := Pst.ok (Pst.bnd h) wd
  refine wpAny_Call_Name_kw (ld_glob I hg hm ?_ hdb)
  refine PySem.W.callWith_KW0 (h₀ := X.base) I.ok.mod.kin hk hall (thn (ha.run pos pins s σ H (fun vs H1 => ∃ ds m1 j1 xs, RepL X.K X.w H1 j1 ds vs ∧ Wd X.K X.w H1 j1 m1 ∧ ds.length = es'.len ∧ arrange ds pm = some xs ∧ Pst cA X.K X.w W H1 j1 (fun d _ H' j' => ∀ v, Rep X.K X.w H' j' d v → Q v H') (cl i xs m1)) I
    ⟨r, m, j, rs, wd, (Pst.bnd h).pure.mono fun ds m1 H1 j1 e1 wd1 ⟨h0, h1⟩ vs rvs => ?_⟩) fun us s1 ⟨vs, H1, I1, rv, ds, m1, j1, xs, rl, wd1, hl, ea, hp⟩ => ⟨I1.kIn, ?_⟩) hpl
  · obtain ⟨xs, ea, h1⟩ := (Pst.bnd h1).opt
    exact ⟨ds, m1, j1, xs, rvs, wd1, evs_len h0, by simpa using ea, Pst.ok h1 wd1⟩
  · rw [hks]
    obtain ⟨rx, lx⟩ := arr_rep rl ea
    have hlu : us.length = ks.length := by rw [← rv.length, ← rl.length, hl, hlen]
    refine wpAny_call (run_g F hr k.gx.gd (args := ⟨[] ++ [], ks.zip us⟩) (us := pm.filterMap fun i => us[i]?) (vs := pm.filterMap fun i => vs[i]?) (hb s1 us hlu) (fun e s' hc => k.esc pins σ H1 s1 e s' I1 hc) I1 (vals_pick rv) ⟨?_, xs, m1, j1, rx, wd1, hp⟩)
    rw [← rx.length, lx, hpm]
end
/-! defs -/
theorem RS.start {K : PySem.W.Frag} {w : World} {H : Hp} {j : J} {ds : List D} {vs : List V} {N : List Str} {a : Nat} (rl : RepL K w H j ds vs) (ha : N.length - vs.length = a) : RS K w H j (start N vs) (ds.map some ++ List.replicate a none) := by
  subst ha
  have hl := rl.length
  refine ⟨by unfold L2.start; simp [hl], fun i d e => ?_⟩
  unfold L2.start
  by_cases hi : i < ds.length
  · rw [List.getElem?_append_left (by simpa using hi), List.getElem?_map] at e
    obtain ⟨d', e1, e2⟩ := Option.map_eq_some_iff.mp e
    cases e2
    obtain ⟨v, q1, q2⟩ := rl.get e1
    exact ⟨v, by rw [List.getElem?_append_left (by rw [List.length_map, ← hl]; exact hi), List.getElem?_map, q1]; rfl, q2⟩
  · rw [List.getElem?_append_right (by simpa using hi), List.getElem?_replicate] at e
    split at e
    · cases e
    · cases e
theorem fn_ok {P : Program} {w : World} {K : PySem.W.Frag} {mg : Str → Option Value} {base : Heap} {cA : Nat → Addr} {x qual : Str} {params : Arguments} {body : List Stmt} {scope : Scope} {dvs : List V} {kws : List (Str × V)} {f : Addr} {fd : FuncData} {N ps : List Str} {F : List Fn} {C : List D} {n i : Nat} {g : Fn}
    (FD : FunD K x qual params body scope dvs kws f fd) (S : FnScope N ps scope) (sm : (K.lookup sysModules).isSome = true) (hF : F[i]? = some g) (hps : g.ps = ps.length) (hn : g.n = N.length)
    (hb : ∀ (cdv : Value) (A : Around) (outer : List PySem.Env) (s : Shared) (H : Hp) (E : XK), Room n (cxOf (L2.CX P w) P w K mg base N qual scope f cdv A outer s H E).A → Kit (cxOf (L2.CX P w) P w K mg base N qual scope f cdv A outer s H E) E →
      PassesOwn (model P w) (cxOf (L2.CX P w) P w K mg base N qual scope f cdv A outer s H E).A (cxOf (L2.CX P w) P w K mg base N qual scope f cdv A outer s H E).env (cxOf (L2.CX P w) P w K mg base N qual scope f cdv A outer s H E).xe →
      PSs (cxOf (L2.CX P w) P w K mg base N qual scope f cdv A outer s H E) body (tS cA K w E (exs (run F C n) C g.body))) :
    FnG P w K mg base (n + 1) f fd ps (spI cA K w (run F C (n + 1)) i ps.length) := by
  obtain ⟨oc, od, dV, kV, doc, pm, an, cdv, ct, osl, rfl, lk, hcd, _, _⟩ := FD.ex
  refine fnG_of (N := N) lk hcd S (fun vs H Q E h => h.1) fun A outer s H vs Q E hr hgd ⟨hl, ds, m, j, rl, wd, h⟩ => ⟨_, hb cdv A outer s H E hr ?_ ?_, ?_⟩
  · refine ⟨⟨?_, hgd, rfl, sm⟩, S.nd, fun pins σ H' s' e s'' I hc => ?_⟩
    · have := hr.un
      show (A.deeper _).units + 200 < cLine
      omega
    · exact passes_call (X := cxOf (L2.CX P w) P w K mg base N qual scope f cdv A outer s H E) (W := fun cls d _ H => E cls d H) (E := E) (takes_of rfl rfl rfl rfl) (fun _ _ _ _ h => h) pins σ H' s' e s'' I hc
  · exact passes_of rfl
  · have hl2 : ds.length = g.ps := by rw [rl.length, hl, hps]
    rw [run_all hF hl2] at h
    refine ⟨_, m, j, RS.start (a := g.n - g.ps) rl (by rw [hl, hn, hps]), wd, (Pst.bnd h).mono fun fl m1 H1 j1 e1 wd1 h1 => ?_⟩
    cases fl with
    | nx r' => exact fun σ' _ => Pst.ret h1 wd1 .non (by simp only [Rep])
    | rt d => exact fun v rv => Pst.ret h1 wd1 v rv
    | bk r' => exact h1.elim
    | ct r' => exact h1.elim
end Mp
end
section -- MpM
set_option Elab.async false
set_option linter.all false
set_option maxRecDepth 100000
set_option maxHeartbeats 4000000
/-! Mp, part M: rules as the walks use them. -/
namespace Mp
open PySem L2 PyProof.Rows
/-- a def as it is written -/
structure Dsc where
  name : Str
  params : Arguments
  body : List Stmt
  scope : Scope
  N : List Str
  ps : List Str
  dfl : List V
def At (K : PySem.W.Frag) (mg : Str → Option Value) (d : Dsc) (f : Addr) (fd : FuncData) : Prop := mg d.name = some (.ref f) ∧ FunD K d.name d.name d.params d.body d.scope d.dfl [] f fd
def All (P : Program) (w : World) (K : PySem.W.Frag) (mg : Str → Option Value) (base : Heap) (cA : Nat → Addr) (F : List Fn) (C : List D) (ds : List Dsc) (n : Nat) : Prop :=
  ∀ i d, ds[i]? = some d → ∃ f fd, At K mg d f fd ∧ FnG P w K mg base n f fd d.ps (spI cA K w (run F C n) i d.ps.length)
/-- a constant of the module -/
def CstAt (K : PySem.W.Frag) (w : World) (mg : Str → Option Value) (x : Str) (d : D) : Prop := ∃ u v, mg x = some u ∧ RelV v u ∧ Std K w d v
section
variable {X : Cx} {cA : Nat → Addr} {W : XK} {pos : Pos} {cl : Nat → List D → M D} {C : List D}
theorem c_glo {i : Nat} {d : D} {x : Str} (hg : Gl X x) (h : CstAt X.K X.w X.mg x d) (hC : C[i]? = some d) (hd : (x == ("__debug__" : Str)) = false := by decide) : PE X (.Name x pos) (tE cA X.K X.w W (ev cl C (.glo i))) := by
  obtain ⟨u, v, hm, rv, hr⟩ := h
  exact s_glo hg hm rv hC hr hd
theorem s_bltB {b : Blt} {id : String} {x : Str} {p : Pos} {e : Expr} {es : List Expr} {es' : Es} (hc : CallR X (.builtin id) (rB X.K X.w b)) (hg : Gl X x) (hm : X.mg x = none) (hv : bootBuiltins x = some (.builtin id)) (ha : PA X (e :: es) (tL cA X.K X.w W (evs cl C es')))
    (hn : x ≠ "__name__" := by decide) (hdb : (x == ("__debug__" : Str)) = false := by decide) (he : starEach (e :: es) X.env = (false, eval e X.env) :: starEach es X.env := by rfl) (hpl : (backTo pos (starEach es X.env)).any (·.1) = false := by rfl) :
    PE X (.Call (.Name x p) (e :: es) [] pos) (tE cA X.K X.w W (ev cl C (.blt b es'))) :=
  (pe_callB hc hg hm hv ha hn hdb he hpl).imp fun σ H Q ⟨r, m, j, rs, wd, h⟩ => by
    simp only [ev] at h
    refine ⟨r, m, j, rs, wd, (Pst.bnd h).mono fun ds m1 H1 j1 e1 wd1 h1 vs rvs => ?_⟩
    obtain ⟨d, e, h1⟩ := h1.optM
    exact ⟨ds, d, j1, m1, rvs, wd1, e, fun z H' s hz => h1 H' j1 (.of_same s) (wd1.same s) z hz⟩
theorem s_bltT {b : Blt} {id : String} {x : Str} {p : Pos} {e : Expr} {es : List Expr} {es' : Es} (hc : CallR X (.type id) (rB X.K X.w b)) (hg : Gl X x) (hm : X.mg x = none) (hv : bootBuiltins x = some (.type id)) (ha : PA X (e :: es) (tL cA X.K X.w W (evs cl C es')))
    (hn : x ≠ "__name__" := by decide) (hdb : (x == ("__debug__" : Str)) = false := by decide) (he : starEach (e :: es) X.env = (false, eval e X.env) :: starEach es X.env := by rfl) (hpl : (backTo pos (starEach es X.env)).any (·.1) = false := by rfl) :
    PE X (.Call (.Name x p) (e :: es) [] pos) (tE cA X.K X.w W (ev cl C (.blt b es'))) :=
  (pe_callTy hc hg hm hv ha hn hdb he hpl).imp fun σ H Q ⟨r, m, j, rs, wd, h⟩ => by
    simp only [ev] at h
    refine ⟨r, m, j, rs, wd, (Pst.bnd h).mono fun ds m1 H1 j1 e1 wd1 h1 vs rvs => ?_⟩
    obtain ⟨d, e, h1⟩ := h1.optM
    exact ⟨ds, d, j1, m1, rvs, wd1, e, fun z H' s hz => h1 H' j1 (.of_same s) (wd1.same s) z hz⟩
theorem bt_len : bootBuiltins "len" = some (.builtin "len") := by decide +kernel
theorem bt_repr : bootBuiltins "repr" = some (.builtin "repr") := by decide +kernel
theorem bt_int : bootBuiltins "int" = some (.type "int") := by decide +kernel
theorem bt_abs : bootBuiltins "abs" = some (.builtin "abs") := by decide +kernel
theorem bt_max : bootBuiltins "max" = some (.builtin "max") := by decide +kernel
theorem bt_min : bootBuiltins "min" = some (.builtin "min") := by decide +kernel
theorem bt_all : bootBuiltins "all" = some (.builtin "all") := by decide +kernel
theorem bt_any : bootBuiltins "any" = some (.builtin "any") := by decide +kernel
theorem bt_tuple : bootBuiltins "tuple" = some (.type "tuple") := by decide +kernel
theorem bt_list : bootBuiltins "list" = some (.type "list") := by decide +kernel
theorem bt_str : bootBuiltins "str" = some (.type "str") := by decide +kernel
theorem bt_bool : bootBuiltins "bool" = some (.type "bool") := by decide +kernel
theorem bt_dict : bootBuiltins "dict" = some (.type "dict") := by decide +kernel
theorem bt_sum : bootBuiltins "sum" = some (.builtin "sum") := by decide +kernel
theorem bt_sorted : bootBuiltins "sorted" = some (.builtin "sorted") := by decide +kernel
theorem bt_divmod : bootBuiltins "divmod" = some (.builtin "divmod") := by decide +kernel
theorem s_rai {st : Stmt} {x : Nat} {es : Es} : PS X st (tS cA X.K X.w W (ex cl C (.rai x es))) := ps_never.imp fun B σ H ⟨r, m, j, rs, wd, h⟩ => by
  simp only [ex] at h
  exact h
/-- a def of the module called by places: all given, or the last ones by default -/
theorem c_call {P : Program} {w : World} {K : PySem.W.Frag} {mg : Str → Option Value} {base : Heap} {F : List Fn} {dsc : List Dsc} {n i : Nat} {d : Dsc} {x : Str} {p : Pos} {e : Expr} {es : List Expr} {es' : Es} {dvs : List V} {dd : List D} (A : All P w K mg base cA F C dsc n)
    (eP : X.prog = P) (ew : X.w = w) (eK : X.K = K) (em : X.mg = mg) (eb : X.base = base) (k : Kit X W) (hr : Room n X.A) (hi : dsc[i]? = some d) (hx : d.name = x) (hg : Gl X x)
    (hb : ∀ {f fd}, FunD K d.name d.name d.params d.body d.scope d.dfl [] f fd → ∃ ds, Vals dvs ds ∧ Binds K fd d.ps ds) (hdd : ∀ w H j, RepL K w H j dd dvs) (hlen : es'.len + dd.length = d.ps.length) (hcl : ∀ n (ds : List D), ds.length = es'.len → run F C n i ds = run F C n i (ds ++ dd))
    (ha : PA X (e :: es) (tL cA X.K X.w W (evs (run F C n) C es'))) (hdb : (x == ("__debug__" : Str)) = false := by decide) (he : starEach (e :: es) X.env = (false, eval e X.env) :: starEach es X.env := by rfl) (hpl : (backTo pos (starEach es X.env)).any (·.1) = false := by rfl) :
    PE X (.Call (.Name x p) (e :: es) [] pos) (tE cA X.K X.w W (ev (run F C n) C (.call i es'))) := by
  subst eP ew eK em eb hx
  obtain ⟨f, fd, ⟨a1, a2⟩, a3⟩ := A i d hi
  exact s_call k a3 hr hg a1 a2.kp (hb a2) (fun H j => hdd _ H j) hlen (hcl n) ha hdb he hpl
theorem c_calk {P : Program} {w : World} {K : PySem.W.Frag} {mg : Str → Option Value} {base : Heap} {F : List Fn} {dsc : List Dsc} {n i : Nat} {d : Dsc} {x : Str} {p : Pos} {kws : List Keyword} {es' : Es} {ks : List Str} {pm : List Nat} (A : All P w K mg base cA F C dsc n)
    (eP : X.prog = P) (ew : X.w = w) (eK : X.K = K) (em : X.mg = mg) (eb : X.base = base) (k : Kit X W) (hr : Room n X.A) (hi : dsc[i]? = some d) (hx : d.name = x) (hg : Gl X x)
    (hb : ∀ {f fd}, FunD K d.name d.name d.params d.body d.scope d.dfl [] f fd → ∀ (s : Shared) (us : List Value), us.length = ks.length → BindsTo s fd ⟨[], ks.zip us⟩ (d.ps.zip (pm.filterMap fun i => us[i]?))) (hlen : es'.len = ks.length) (hpm : pm.length = d.ps.length)
    (ha : PK X kws (tL cA X.K X.w W (evs (run F C n) C es'))) (hall : (backToKw pos (keywordEach kws X.env)).all (·.1.isSome) = true := by rfl) (hks : (backToKw pos (keywordEach kws X.env)).filterMap (·.1) = ks := by rfl)
    (hdb : (x == ("__debug__" : Str)) = false := by decide) (hpl : ((backTo pos (starEach [] X.env)).any (·.1) || (backToKw pos (keywordEach kws X.env)).any (·.1.isNone)) = false := by rfl) :
    PE X (.Call (.Name x p) [] kws pos) (tE cA X.K X.w W (ev (run F C n) C (.calk i .n es' pm))) := by
  subst eP ew eK em eb hx
  obtain ⟨f, fd, ⟨a1, a2⟩, a3⟩ := A i d hi
  exact s_calk k a3 hr hg a1 a2.kp (hb a2) hlen hpm ha hall hks hdb hpl
theorem s_par3 {i j l : Nat} {x y z : Str} {a b c : Expr} {a' b' c' : E} {px py pz pt : Pos} {kt k2 pt2} (k : Kit X W) (hi : X.N[i]? = some x) (hj : X.N[j]? = some y) (hl : X.N[l]? = some z) (hij : i ≠ j) (hil : i ≠ l) (hjl : j ≠ l)
    (hx : X.env.scope.names.lookup x = some .local) (hy : X.env.scope.names.lookup y = some .local) (hz : X.env.scope.names.lookup z = some .local) (ha : PA X [a, b, c] (tL cA X.K X.w W (evs cl C (.c a' (.c b' (.c c' .n))))))
    (hw : swappedStores [.Tuple [.Name x px, .Name y py, .Name z pz] kt pt] (.Tuple [a, b, c] k2 pt2) X.env = pure (some [x, y, z]))
    (hs : swapsWithSole [.Tuple [.Name x px, .Name y py, .Name z pz] kt pt] (.Tuple [a, b, c] k2 pt2) pos.line X.env = pure false := by rfl) :
    PS X (.Assign [.Tuple [.Name x px, .Name y py, .Name z pz] kt pt] (.Tuple [a, b, c] k2 pt2) pos) (tS cA X.K X.w W (ex cl C (.asg (.tp (.c (.nm i) (.c (.nm j) (.c (.nm l) .n)))) (.tup (.c a' (.c b' (.c c' .n))))))) :=
  (ps_par3 k.gx.calm k.nd hi hj hl hij hil hjl hx hy hz ha hw hs).imp fun B σ H ⟨r, m, jj, rs, wd, h⟩ => by
    simp only [ex, ev] at h
    refine ⟨r, m, jj, rs, wd, (Pst.bnd (Pst.bnd h)).mono fun ds m1 H1 j1 e1 wd1 h1 vs rv => ?_⟩
    obtain ⟨_, h1⟩ := h1.ite
    have h2 := Pst.ret h1 wd1
    simp only [asT] at h2
    replace h2 := Pst.bnd h2
    obtain ⟨hl, h2⟩ := h2.ite
    match ds, vs, rv, h2 with
    | [], _, _, h2 => simp [Tgs.len] at hl
    | [_], _, _, h2 => simp [Tgs.len] at hl
    | [_, _], _, _, h2 => simp [Tgs.len] at hl
    | [d, e, f], _, rv, h2 =>
      simp only [RepL] at rv
      obtain ⟨v, r1, rfl, q1, u, r2, rfl, q2, t, r3, rfl, q3, rfl⟩ := rv
      refine ⟨v, u, t, rfl, ?_⟩
      simp only [asTs, asT] at h2
      replace h2 := Pst.bnd h2
      obtain ⟨_, h2⟩ := h2.ite
      replace h2 := Pst.bnd (Pst.ret h2 wd1)
      obtain ⟨_, h2⟩ := h2.ite
      replace h2 := Pst.bnd (Pst.ret h2 wd1)
      obtain ⟨_, h2⟩ := h2.ite
      replace h2 := Pst.ret (Pst.ret h2 wd1) wd1
      exact Pst.ret h2 wd1 _ ((((rs.ext e1).set q1).set q2).set q3)
    | _ :: _ :: _ :: _ :: _, _, _, h2 => simp [Tgs.len] at hl
end
theorem all_zero {P : Program} {w : World} {K : PySem.W.Frag} {mg : Str → Option Value} {base : Heap} {cA : Nat → Addr} {F : List Fn} {C : List D} {ds : List Dsc} (h : ∀ (i : Nat) (d : Dsc), ds[i]? = some d → ∃ f fd, At K mg d f fd) : All P w K mg base cA F C ds 0 := fun i d hi => by
  obtain ⟨f, fd, a⟩ := h i d hi
  exact ⟨f, fd, a, fun vs H Q E h => h.1, fun A outer s H args us vs Q E _ _ _ _ _ ⟨_, ds, m, j, _, _, h⟩ => h.elim⟩
end Mp
end
section -- MpN
set_option Elab.async false
set_option linter.all false
set_option maxRecDepth 100000
set_option maxHeartbeats 4000000
/-! Mp, part N: the head's hook: defs, names, the module's constants. -/
namespace Mp
open PySem L2 PyProof.Rows
mutual
/-- a written value is that datum -/
def dB (K : PySem.W.Frag) : D → Value → Bool
  | .non, u => (match u with
    | .none => true
    | _ => false)
  | .bl b, u => (match u with
    | .bool c => decide (b = c)
    | _ => false)
  | .int i, u => (match u with
    | .int j _ => decide (i = j)
    | _ => false)
  | .str x, u => (match u with
    | .str y _ => decide (x = y)
    | _ => false)
  | .tup xs, u => (match u with
    | .ref a => (match K.lookup a with
      | some ⟨.type c, _, .seq its _, _⟩ => decide (c = "tuple") && (decide (its.size ≤ sizeLine) && dBL K xs its.toList)
      | _ => false)
    | _ => false)
  | .lst _, _ => false
  | .dct _ _, _ => false
  | .wdc _ _, _ => false
  | .ref _, _ => false
def dBL (K : PySem.W.Frag) : List D → List Value → Bool
  | [], us => us.isEmpty
  | d :: ds, us => (match us with
    | u :: r => dB K d u && dBL K ds r
    | [] => false)
end
theorem ba2 {a b : Bool} (h : (a && b) = true) : a = true ∧ b = true := Bool.and_eq_true_iff.mp h
mutual
theorem dB_ok {K : PySem.W.Frag} {w : World} : ∀ (d : D) (u : Value), dB K d u = true → ∃ v, RelV v u ∧ Std K w d v
  | .non, u, h => by
    cases u <;> simp only [dB] at h <;> first | exact absurd h (by decide) | skip
    exact ⟨.non, rfl, fun _ _ => by simp only [Rep]⟩
  | .bl b, u, h => by
    cases u <;> simp only [dB] at h <;> first | exact absurd h (by decide) | skip
    obtain rfl := of_decide_eq_true h
    exact ⟨.bl b, rfl, fun _ _ => by simp only [Rep]⟩
  | .int i, u, h => by
    cases u <;> simp only [dB] at h <;> first | exact absurd h (by decide) | skip
    obtain rfl := of_decide_eq_true h
    exact ⟨.int i, ⟨_, rfl⟩, fun _ _ => by simp only [Rep]⟩
  | .str x, u, h => by
    cases u <;> simp only [dB] at h <;> first | exact absurd h (by decide) | skip
    obtain rfl := of_decide_eq_true h
    exact ⟨.str x, ⟨_, rfl⟩, fun _ _ => by simp only [Rep]⟩
  | .tup xs, u, h => by
    cases u <;> simp only [dB] at h <;> first | exact absurd h (by decide) | skip
    rename_i a
    split at h
    · rename_i c od its n sl hl
      obtain ⟨h1, h2⟩ := ba2 h
      obtain ⟨h3, h4⟩ := ba2 h2
      obtain ⟨vs, rv, st⟩ := dBL_ok (w := w) xs _ h4
      refine ⟨.ref a, rfl, fun H j => ?_⟩
      simp only [Rep]
      exact ⟨a, vs, rfl, .inr ⟨_, its, n, hl, congrArg Value.type (of_decide_eq_true h1), rfl, of_decide_eq_true h3, rv⟩, st H j⟩
    · cases h
  | .lst _, u, h => by simp [dB] at h
  | .dct _ _, u, h => by simp [dB] at h
  | .wdc _ _, u, h => by simp [dB] at h
  | .ref _, u, h => by simp [dB] at h
theorem dBL_ok {K : PySem.W.Frag} {w : World} : ∀ (ds : List D) (us : List Value), dBL K ds us = true → ∃ vs, Vals vs us ∧ ∀ H j, RepL K w H j ds vs
  | [], us, h => by
    simp only [dBL] at h
    cases us with
    | nil => exact ⟨[], .nil, fun _ _ => .nil⟩
    | cons _ _ => cases h
  | d :: ds, us, h => by
    simp only [dBL] at h
    cases us with
    | nil => cases h
    | cons u r =>
      obtain ⟨h1, h2⟩ := ba2 h
      obtain ⟨v, rv, sv⟩ := dB_ok (w := w) d u h1
      obtain ⟨vs, rvs, svs⟩ := dBL_ok (w := w) ds r h2
      exact ⟨v :: vs, .cons rv rvs, fun H j => RepL.cons (sv H j) (svs H j)⟩
end
/-! written dicts with text keys -/
def keyE (e : DictEntry) : Option Key := match e.key with
  | .str x _ => some (.inr x)
  | _ => none
def tabB (K : PySem.W.Frag) (a : Addr) (ks : List Key) (ds : List D) : Bool := match K.lookup a with
  | some ⟨_, _, .dict es _, _⟩ => decide (es.toList.map keyE = ks.map some) && (decide ks.Nodup && dBL K ds (es.toList.map (·.val)))
  | _ => false
theorem find_key : ∀ {es : List DictEntry} {ks : List Key} {i : Nat} {x : Str}, es.map keyE = ks.map some → ks.Nodup → ks[i]? = some (.inr x) → ∃ e, es.find? (·.key.isStr x) = some e ∧ es[i]? = some e
  | [], ks, i, x, h, hn, hi => by
    cases ks with
    | nil => simp at hi
    | cons _ _ => cases h
  | e :: es, [], i, x, h, hn, hi => by cases h
  | e :: es, k :: ks, i, x, h, hn, hi => by
    simp only [List.map_cons, List.cons.injEq] at h
    obtain ⟨h1, h2⟩ := h
    have hk : ∃ y t, e.key = .str y t ∧ k = .inr y := by
      unfold keyE at h1
      split at h1
      · rename_i y t e1; exact ⟨y, t, e1, (Option.some.inj h1).symm⟩
      · cases h1
    obtain ⟨y, t, e1, rfl⟩ := hk
    cases i with
    | zero =>
      simp only [List.getElem?_cons_zero, Option.some.injEq, Sum.inr.injEq] at hi
      subst hi
      refine ⟨e, ?_, rfl⟩
      rw [List.find?_cons_of_pos]
      rw [e1]
      simp [Value.isStr]
    | succ i =>
      simp only [List.getElem?_cons_succ] at hi
      have ne : y ≠ x := fun e => by
        subst e
        exact (List.nodup_cons.mp hn).1 (List.mem_of_getElem? hi)
      obtain ⟨e', q1, q2⟩ := find_key h2 (List.nodup_cons.mp hn).2 hi
      refine ⟨e', ?_, by simpa using q2⟩
      rw [List.find?_cons_of_neg, q1]
      rw [e1]
      simp [Value.isStr, ne]
theorem find_no : ∀ {es : List DictEntry} {ks : List Key} {x : Str}, es.map keyE = ks.map some → Sum.inr x ∉ ks → es.find? (·.key.isStr x) = none ∧ (es.any (·.refKey)) = false
  | [], ks, x, h, hn => ⟨rfl, rfl⟩
  | e :: es, [], x, h, hn => by cases h
  | e :: es, k :: ks, x, h, hn => by
    simp only [List.map_cons, List.cons.injEq] at h
    obtain ⟨h1, h2⟩ := h
    have hk : ∃ y t, e.key = .str y t ∧ k = .inr y := by
      unfold keyE at h1
      split at h1
      · rename_i y t e1; exact ⟨y, t, e1, (Option.some.inj h1).symm⟩
      · cases h1
    obtain ⟨y, t, e1, rfl⟩ := hk
    simp only [List.mem_cons, not_or] at hn
    have ne : y ≠ x := fun e => hn.1 (by rw [e])
    obtain ⟨q1, q2⟩ := find_no h2 hn.2
    refine ⟨?_, ?_⟩
    · rw [List.find?_cons_of_neg, q1]
      rw [e1]
      simp [Value.isStr, ne]
    · rw [List.any_cons, q2, Bool.or_false]
      simp [DictEntry.refKey, e1]
theorem tabB_ok {K : PySem.W.Frag} {w : World} {a : Addr} {ks : List Key} {ds : List D} (h : tabB K a ks ds = true) (kd : ∃ es n, KDict K w a es n) : Std K w (.wdc ks ds) (.ref a) := by
  unfold tabB at h
  split at h
  · rename_i oc od es n sl hl
    obtain ⟨h1, h2⟩ := ba2 h
    obtain ⟨h3, h4⟩ := ba2 h2
    have h1 := of_decide_eq_true h1
    have h3 := of_decide_eq_true h3
    obtain ⟨vs, rv, st⟩ := dBL_ok (w := w) ds _ h4
    intro H j
    simp only [Rep]
    refine ⟨a, vs, rfl, ⟨kd, fun i x v hi hv => ?_, fun x hx => ?_, h3, fun k hk => ?_, ?_⟩, st H j⟩
    · obtain ⟨e, q1, q2⟩ := find_key h1 h3 hi
      obtain ⟨u, hu, ru⟩ := rv.get hv
      rw [List.getElem?_map, q2] at hu
      cases hu
      exact ⟨e.val, by unfold PySem.W.nsIn; rw [hl]; simp only [q1], ru⟩
    · obtain ⟨q1, q2⟩ := find_no h1 hx
      unfold PySem.W.nsIn
      rw [hl]
      simp only [q1, q2]
      rfl
    · have : some k ∈ es.toList.map keyE := by rw [h1]; exact List.mem_map_of_mem hk
      obtain ⟨e, _, he⟩ := List.mem_map.mp this
      unfold keyE at he
      split at he
      · exact ⟨_, (Option.some.inj he).symm⟩
      · cases he
    · have l1 := rv.length
      have l2 := congrArg List.length h1
      simp only [List.length_map] at l1 l2
      omega
  · cases h
/-! the hook -/
def cstB (K : PySem.W.Frag) (x : Str) (d : D) : Bool := match d with
  | .wdc ks ds => He.eqO (PySem.W.nsIn K mainGlobals x) (some (some (.ref (He.ga K x)))) && tabB K (He.ga K x) ks ds
  | d => (match PySem.W.nsIn K mainGlobals x with
    | some (some u) => dB K d u
    | _ => false)
abbrev AlM : Type := He.AlT × Bool
/-- none of these is a list -/
def noL (K : PySem.W.Frag) : Bool := K.all fun p => match p.2.cls with
  | .type c => decide (c ≠ "list")
  | _ => true
theorem look_mem {α : Type} {a : Addr} {o : α} : ∀ {l : List (Addr × α)}, l.lookup a = some o → (a, o) ∈ l
  | [], h => by cases h
  | (b, u) :: l, h => by
    by_cases e : a = b
    · subst e
      rw [List.lookup_cons_self] at h; cases h
      exact List.mem_cons_self
    · rw [List.lookup_cons, (by simpa using e : (a == b) = false)] at h
      exact List.mem_cons_of_mem _ (look_mem h)
theorem noL_ok {K : PySem.W.Frag} (h : noL K = true) {a : Addr} {o : Obj} (e : K.lookup a = some o) (its : Array Value) (m : Nat) : o ≠ { cls := .type "list", data := .seq its m } := by
  rintro rfl
  have q := List.all_eq_true.mp h _ (look_mem e)
  simp at q
def obsM (fa : List He.Fa) (fn : List He.DefD) (ts : List He.Tab) (cs : List (Str × D)) (K : PySem.W.Frag) : AlM := (He.obsT fa fn ts K, (K.lookup sysModules).isSome && (noL K && cs.all fun c => cstB K c.1 c.2))
def valM (fn : List He.DefD) (ts : List He.Tab) (w : World) : AlM := (He.valT fn ts w, true)
def SaysM (fa : List He.Fa) (fn : List He.DefD) (ts : List He.Tab) (cs : List (Str × D)) (w : World) (K : PySem.W.Frag) : Prop := obsM fa fn ts cs K = valM fn ts w
def obsMG (n : Nat) (fa : List He.Fa) (fn : List He.DefD) (ts : List He.Tab) (cs : List (Str × D)) (g : Addr → Option Obj) : AlM := obsM fa fn ts cs (He.frG g (sysModules :: He.asD g n))
def hookM (n : Nat) (fa : List He.Fa) (fn : List He.DefD) (ts : List He.Tab) (cs : List (Str × D)) : PySem.W.Hook where
  α := AlM
  obs := fun s => obsMG n fa fn ts cs s.heap.get?
  val := fun w => valM fn ts w
  says := fun w h => ∃ K : PySem.W.Frag, K.In h ∧ SaysM fa fn ts cs w K
  of := fun _ _ e => ⟨_, He.frG_in, e⟩
  keeps := fun _ _ _ ⟨K, hK, c⟩ k => ⟨K, PySem.W.Frag.In.keeps hK k, c⟩
theorem obsMG_eq {n : Nat} {fa : List He.Fa} {fn : List He.DefD} {ts : List He.Tab} {cs : List (Str × D)} {g : Addr → Option Obj} {s : Shared} (h : ∀ a, g a = s.heap.get? a) : obsMG n fa fn ts cs g = (hookM n fa fn ts cs).obs s := by
  have e : g = s.heap.get? := funext h
  rw [e] <;> rfl
section
variable {fa : List He.Fa} {fn : List He.DefD} {ts : List He.Tab} {cs : List (Str × D)} {w : World} {K : PySem.W.Frag}
theorem SaysM.t (c : SaysM fa fn ts cs w K) : He.SaysT fa fn ts w K := congrArg (fun z : AlM => z.1) c
theorem SaysM.sm (c : SaysM fa fn ts cs w K) : (K.lookup sysModules).isSome = true := (ba2 (show ((K.lookup sysModules).isSome && (Mp.noL K && cs.all fun c => cstB K c.1 c.2)) = true from congrArg (fun z : AlM => z.2) c)).1
theorem SaysM.noList (c : SaysM fa fn ts cs w K) {a : Addr} {o : Obj} (e : K.lookup a = some o) (its : Array Value) (m : Nat) : o ≠ { cls := .type "list", data := .seq its m } :=
  noL_ok (ba2 (ba2 (show ((K.lookup sysModules).isSome && (Mp.noL K && cs.all fun c => cstB K c.1 c.2)) = true from congrArg (fun z : AlM => z.2) c)).2).1 e its m
theorem SaysM.cst (c : SaysM fa fn ts cs w K) {h : Heap} {mg : Str → Option Value} (X : K.In h) (G : h.Ns mainGlobals mg) {x : Str} {d : D} (hm : (x, d) ∈ cs) (ht : ∀ ks ds, d = .wdc ks ds → ∃ es n, KDict K w (He.ga K x) es n) : CstAt K w mg x d := by
  have q := List.all_eq_true.mp (ba2 (ba2 (show ((K.lookup sysModules).isSome && (Mp.noL K && cs.all fun c => cstB K c.1 c.2)) = true from congrArg (fun z : AlM => z.2) c)).2).2 _ hm
  have oth : (match PySem.W.nsIn K mainGlobals x with
    | some (some u) => dB K d u
    | _ => false) = true → CstAt K w mg x d := fun q => by
    split at q
    · rename_i u hu
      obtain ⟨v, rv, sv⟩ := dB_ok (w := w) d u q
      exact ⟨u, v, PySem.W.mg_of X G hu, rv, sv⟩
    · cases q
  cases d with
  | wdc ks ds =>
    obtain ⟨q1, q2⟩ := ba2 (show (He.eqO (PySem.W.nsIn K mainGlobals x) (some (some (.ref (He.ga K x)))) && tabB K (He.ga K x) ks ds) = true from q)
    exact ⟨_, .ref _, PySem.W.mg_of X G (He.eqO_ok q1), rfl, tabB_ok q2 (ht _ _ rfl)⟩
  | non => exact oth q
  | bl _ => exact oth q
  | int _ => exact oth q
  | str _ => exact oth q
  | tup _ => exact oth q
  | lst _ => exact oth q
  | dct _ _ => exact oth q
  | ref _ => exact oth q
theorem SaysM.free (c : SaysM fa fn ts cs w K) {h : Heap} {mg : Str → Option Value} (X : K.In h) (G : h.Ns mainGlobals mg) {x : Str} (hm : He.Fa.free x ∈ fa) : mg x = none := by
  obtain ⟨i, hi⟩ := List.getElem?_of_mem hm
  exact He.free_ok X G (c.t.d.fact i hi)
theorem SaysM.at_ (c : SaysM fa fn ts cs w K) {h : Heap} {mg : Str → Option Value} (X : K.In h) (G : h.Ns mainGlobals mg) (i : Nat) {e : He.DefD} {d : Dsc} (he : fn[i]? = some e) (hm : He.Fa.glo d.name ∈ fa) (h1 : e.at_ = (d.name, none)) (h2 : e.name = d.name) (h3 : e.qual = d.name) (h4 : e.params = d.params) (h5 : e.body = d.body) (h6 : e.scope = d.scope) (h7 : e.dvs K = d.dfl) (h8 : e.kwd = []) :
    ∃ f fd, At K mg d f fd := by
  obtain ⟨fd, F⟩ := c.t.d.def_ i he
  obtain ⟨k, hk⟩ := List.getElem?_of_mem hm
  refine ⟨He.ga K d.name, fd, He.glo_ok X G (c.t.d.fact k hk), ?_⟩
  have e8 : e.kws K = [] := by unfold He.DefD.kws; rw [h8]; rfl
  have e1 : He.fAd K e.at_ = He.ga K d.name := by rw [h1]; rfl
  rw [h2, h3, h4, h5, h6, h7, e8, e1] at F
  exact F
end
end Mp
end
section -- MpO
set_option Elab.async false
set_option linter.all false
set_option maxRecDepth 100000
set_option maxHeartbeats 4000000
/-! Mp, part O: the law's def is called behind the module's top. -/
namespace Mp
open PySem L2 PyProof.Rows
/-- the heap that is fixed through the law, under an abstract heap in which at most the list at a stands -/
theorem base_mod {K : PySem.W.Frag} {mg mb : Str → Option Value} {s : Shared} {H : Hp} {a : Addr} {vs : List Value} (KX : K.In s.heap) (hns : s.heap.Ns mainGlobals mg) (hb : s.heap.Ns builtinsNs mb) (hbb : ∀ x : Str, x ≠ "__name__" → mb x = bootBuiltins x) (hlim : s.heap.NoLimit)
    (ha : s.heap.get? a = some { cls := .type "list", data := .seq vs.toArray }) (hA : ∀ b, H b ≠ none → b = a ∧ K.lookup a = none) : K.In (hidT s.heap H) ∧ (hidT s.heap H).Ns mainGlobals mg ∧ Mod K mg (hidT s.heap H) := by
  have ns : ∀ {b : Addr} {m : Str → Option Value}, s.heap.Ns b m → (hidT s.heap H).Ns b m := fun {b m} ⟨o, es, ep, e, d, r⟩ => by
    refine ⟨o, es, ep, hidT_get e ?_, d, r⟩
    by_cases q : H b = none
    · exact q
    · obtain ⟨rfl, _⟩ := hA b q
      rw [ha] at e; cases e
      cases (show Data.seq vs.toArray _ = Data.dict es ep from d)
  have kin : K.In (hidT s.heap H) := fun b o e => by
    refine hidT_get (KX b o e) ?_
    by_cases q : H b = none
    · exact q
    · obtain ⟨rfl, z⟩ := hA b q
      rw [z] at e; cases e
  exact ⟨kin, ns hns, kin, ns hns, ⟨mb, ns hb, hbb⟩, let ⟨mc, h1, h2⟩ := hlim; ⟨mc, ns h1, h2⟩⟩
theorem callG {P : Program} {w : World} {K : PySem.W.Frag} {mg mb : Str → Option Value} {k : Nat} {fa a : Addr} {fd : FuncData} {x : Str} {sp : Sp} {s : Shared} {vs : List Value} {H : Hp}
    (KX : K.In s.heap) (hns : s.heap.Ns mainGlobals mg) (hb : s.heap.Ns builtinsNs mb) (hbb : ∀ x : Str, x ≠ "__name__" → mb x = bootBuiltins x) (hlim : s.heap.NoLimit) (hg : s.gens = #[]) (ha : s.heap.get? a = some { cls := .type "list", data := .seq vs.toArray }) (hr : Room k callerA) (hgd : callerA.guards = some [])
    (F : ∀ base : Heap, K.In base → base.Ns mainGlobals mg → FnG P w K mg base k fa fd [x] sp) (hbind : ∀ (s : Shared) (u : Value), BindsTo s fd ⟨[u], []⟩ [(x, u)]) (hO : Only H) (hok : HOk P w H s.heap) (hA : ∀ b, H b ≠ none → b = a ∧ K.lookup a = none)
    (hsp : sp [.ref a] H (fun v _ => v = .bl true) fun _ _ _ => False) :
    codeAny (model P w) callerA (.call (.ref fa) ⟨[.ref a], []⟩) (fun r s' => r = .ok (.ret (.bool true)) ∧ OldK s.heap s'.heap ∧ s'.os = s.os ∧ AllBare s'.gens) s := by
  obtain ⟨b1, b2, b3⟩ := base_mod KX hns hb hbb hlim ha hA
  have e0 : Env0 P w K mg (hidT s.heap H) callerA [] s H := ⟨rfl, b3, fun b o e => of_hidT e, Nat.le_of_eq (hidT_size _ _), trivial, fun b hb => absurd (show b ∈ ([] : List Addr) from hb) (by simp), hok, .of_eq hg⟩
  refine codeAny_mono ((F _ b1 b2).run callerA [] s H ⟨[.ref a], []⟩ [.ref a] [.ref a] _ _ hr hgd e0 (hbind s (.ref a)) (.cons rfl .nil) hsp) fun r s' h => ?_
  match r, h with
  | .error e, ⟨_, _, _, _, _, _, _, _, _, _, _, _, z⟩ => exact z.elim
  | .ok (.ret u), ⟨v, H', os, bare, un, hok', r', q⟩ =>
    obtain rfl : v = .bl true := q
    obtain rfl : u = Value.bool true := r'
    refine ⟨rfl, OldK.of_keep fun b o e => ?_, os, bare⟩
    by_cases q : H b = none
    · exact un.keep b o e q (by simp [frs]) (by simp)
    · rcases hO b with z | ⟨ob, xs, z⟩
      · exact absurd z q
      · obtain ⟨e1, _⟩ := hok b _ z
        obtain ⟨e2, _⟩ := hok' b _ (un.frzs b ob _ z)
        rw [e] at e1; cases e1
        exact e2
/-- from the promise of the law's def to the walk that the head asks for -/
theorem walkG {l : PySem.W.OpenLaw} {n k : Nat} {q : Program} {loose : List Str} {XP : (Str → Option Value) → Heap → Prop} {YP : World → Heap → Prop} {d : DefRec} {x : Str}
    (hn : l.most = some n) (hn2 : n ≤ sizeLine) (hdf : d.params.defaults = []) (hr : Room k callerA) (hgd : callerA.guards = some [])
    (F : ∀ (w : World) (mg : Str → Option Value) (fa : Addr) (h : Heap), YP w h → h.Ns mainGlobals mg → mg d.name = some (.ref fa) →
      ∃ (K : PySem.W.Frag) (fd : FuncData) (sp : Sp), K.In h ∧ (∀ (s : Shared) (u : Value), BindsTo s fd ⟨[u], []⟩ [(x, u)]) ∧
        (∀ (H : Hp) (a : Addr) (ns : List Int), ns.length ≤ n → Rd H a (.lst (ns.map V.int)) → sp [.ref a] H (fun v _ => v = .bl true) fun _ _ _ => False) ∧ (∀ a o, K.lookup a = some o → ∀ its m, o ≠ { cls := .type "list", data := .seq its m }) ∧
        ∀ base : Heap, K.In base → base.Ns mainGlobals mg → FnG l.prog w K mg base k fa fd [x] sp) :
    PySem.W.WalkO q loose XP YP l.row.toRowW d [] (fun f vs => PySem.call f vs) := by
  refine Att.attach_call hn hdf fun w s₀ s₁ mg mb fa o pm cd doc a vs ns G Y ho hd hcd hmg hobj hints hlen hg => ?_
  obtain ⟨K, fd, sp, KX, hb, hsp, hK, hF⟩ := F w mg fa _ Y G.T.g hmg
  have rv := vals_ints hints
  have hKa : K.lookup a = none := by
    cases e : K.lookup a with
    | none => rfl
    | some o =>
      have := KX a o e
      rw [hobj] at this
      cases this
      exact absurd rfl (hK a _ e _ _)
  let H : Hp := fun b => if b = a then some (.frz { cls := .type "list", data := .seq vs.toArray } (.lst (ns.map V.int))) else none
  have Ha : H a = some (.frz { cls := .type "list", data := .seq vs.toArray } (.lst (ns.map V.int))) := if_pos rfl
  have Hn : ∀ b, b ≠ a → H b = none := fun b hb => if_neg hb
  refine callG (H := H) KX G.T.g G.T.b G.T.builtins G.T.nolimit hg hobj hr hgd hF hb (fun b => ?_) (fun b u z => ?_) (fun b z => ?_) (hsp H a ns hlen (.inr ⟨_, Ha⟩))
  · by_cases e : b = a
    · subst e; exact .inr ⟨_, _, Ha⟩
    · exact .inl (Hn b e)
  · by_cases e : b = a
    · subst e
      rw [Ha] at z; cases z
      exact ⟨hobj, by rw [List.length_map]; exact Nat.le_trans hlen hn2, vs, _, rv, hobj⟩
    · rw [Hn b e] at z; cases z
  · by_cases e : b = a
    · exact ⟨e, hKa⟩
    · exact absurd (Hn b e) z
end Mp
namespace Mp
open PySem L2
theorem ints_rep {K : PySem.W.Frag} {w : World} {H : Hp} {j : J} : ∀ {ns : List Int}, RepL K w H j (ns.map .int) (ns.map .int)
  | [] => RepL.nil
  | _ :: _ => RepL.cons (by simp only [Rep]) ints_rep
end Mp
end
section -- MpU
set_option Elab.async false
set_option linter.all false
set_option maxRecDepth 100000
set_option maxHeartbeats 4000000
/-! Mp, part U: enumerate of a tuple. -/
namespace Mp
open PySem L2 PyProof.Rows
open AutoSeq1 (wpAny_loadPart')
theorem new_enumT (l : Addr) (items : Array Value) (o : Obj) : Meets (Builtin.«enumerate.__new__» ⟨[.type "enumerate", .ref l], []⟩) (fun _ R s => (s.heap.get? l = some o ∧ s.heap.IsTuple l items) ∧
    R (.ok (.ret (.ref (s.heap.push { cls := .type "tuple_iterator", data := .fields #[.ref l, .int 0 0] }).objs.size)))
      { s with heap := (s.heap.push { cls := .type "tuple_iterator", data := .fields #[.ref l, .int 0 0] }).push { cls := .type "enumerate", data := .fields #[.none, .bool false, .ref s.heap.objs.size, rawInt 0, .none, .none] } }) :=
  .of_wp fun prog w A R s h => by
    obtain ⟨hp, g, d, tk, os⟩ := s
    obtain ⟨⟨hl, hT⟩, h⟩ := h
    have hT' : Heap.IsTuple (Shared.heap ⟨hp, g, d, tk, os⟩) l items := hT
    have hsub := sub_enumerate
    wp_walk using wpAny_loadPart' hl
    refine wpAny_stack_any fun st => wpAny_pure ?_
    split
    · rename_i c _ _ _ _ _
      cases (c == Value.type "enumerate")
      all_goals
        wp_walk using wpAny_loadPart' hl, wpAny_pyIter_tuple hT'
        exact ⟨_, rfl, h⟩
    · wp_walk using wpAny_loadPart' hl, wpAny_pyIter_tuple hT'
      exact ⟨_, rfl, h⟩
section
variable {prog : Program} {w : World} {A : Around} {E : Value → Shared → Prop} {s : Shared}
theorem call_enumT {l : Addr} {items : Array Value} {Q : Value → Shared → Prop} (hL : s.heap.IsTuple l items)
    (h : ∀ h', IsEnum h' (s.heap.objs.size + 1) s.heap.objs.size 0 .none → h'.IsTupleIter s.heap.objs.size l 0 → (∀ b o, s.heap.get? b = some o → h'.get? b = some o) → Q (.ref (s.heap.objs.size + 1)) { s with heap := h' }) :
    wpAny (model prog w) A (call (.type "enumerate") [.ref l]) Q E s := by
  obtain ⟨o, hl, _⟩ := id hL
  refine callType_new F.called_enumerate (by decide) (F.typeCall_enumerate_1 _) (F.newCall_enumerate_1 _) (fun obj => F.args_object_init_2 obj _) F.entry_enumerate_new (new_enumT l items o) ⟨⟨hl, hL⟩, ?_⟩
  generalize hk : s.heap.push { cls := .type "tuple_iterator", data := .fields #[.ref l, .int 0 0] } = k
  have hz : k.objs.size = s.heap.objs.size + 1 := by rw [← hk]; exact Heap.size_push ..
  have i0 : k.get? s.heap.objs.size = some { cls := .type "tuple_iterator", data := .fields #[.ref l, .int 0 0] } := by rw [← hk]; exact Heap.get?_push_size _ rfl
  have kp : ∀ b o, s.heap.get? b = some o → k.get? b = some o := fun b o x => by rw [← hk]; exact Heap.get?_push_of_some _ x
  have he := Heap.get?_push_size k (o := { cls := .type "enumerate", data := .fields #[.none, .bool false, .ref s.heap.objs.size, rawInt 0, .none, .none] }) rfl
  rw [hz] at he
  show _ ∧ _
  rw [hz]
  exact ⟨⟨_, he, rfl⟩, h _ he ⟨_, Heap.get?_push_of_some _ i0, rfl, rfl⟩ fun b o x => Heap.get?_push_of_some _ (kp b o x)⟩
end
end Mp
end
section -- MpV
set_option Elab.async false
set_option linter.all false
set_option maxRecDepth 100000
set_option maxHeartbeats 4000000
/-! Mp, part V: walks of enumerate(tuple). -/
namespace Mp
open PySem L2 PyProof.Rows
def IteT (K : PySem.W.Frag) (a : Addr) : L2.It :=
  ⟨fun i H => ∃ (xs : List V) (x : V), SqT K H a xs ∧ xs[i]? = some x, fun i H v H' => ∃ T x, v = .ref T ∧ H T = none ∧ H' = upd H T (.tup [.int (i : Nat), x]) ∧ ∀ xs, SqT K H a xs → xs[i]? = some x, fun i H => ∃ xs : List V, SqT K H a xs ∧ xs.length ≤ i⟩
theorem turn_enumT {P : Program} {w : World} {K : PySem.W.Frag} {elts : List Expr} {kk : Nat} {tpos : Pos} (a e it : Addr) :
    Turn P w K (.Tuple elts kk tpos) (IteT K a) [e, it] e (fun i h => (∃ old, IsEnum h e it ((i : Nat) : Int) old) ∧ h.IsTupleIter it a i ∧ e ≠ it ∧ a ≠ it ∧ e ≠ a) where
  mem := by simp
  obj := fun i h st b hb => by
    obtain ⟨⟨old, he⟩, ⟨o, ho, hc, hd⟩, _⟩ := st
    rcases (show b = e ∨ b = it by simpa using hb) with rfl | rfl
    · exact ⟨_, he, fun v q => nomatch q⟩
    · exact ⟨o, ho, fun v q => by rw [hd] at q; cases q⟩
  keep := fun i h h' st k => let ⟨⟨old, he⟩, hi, hne⟩ := st; ⟨⟨old, k e (by simp) _ he⟩, hi.at fun o q => k it (by simp) o q, hne⟩
  item := by
    intro X hP hw hK hc i pins s σ H E I hf st hg
    subst hP hw hK
    obtain ⟨⟨old, he⟩, hit, hne, hai, hea⟩ := st
    obtain ⟨xs, x, hq, hx⟩ := hg
    obtain ⟨its, rv, p, hz⟩ := I.tuple hq
    obtain ⟨u, hu, ru⟩ := rv.get hx
    have hel : e < s.heap.objs.size := Heap.lt_size he
    have hil : it < s.heap.objs.size := by obtain ⟨_, q, _⟩ := hit; exact Heap.lt_size q
    have ht : s.heap.IsTuple a its.toArray := p
    have hlt : i < its.toArray.size := by have := (List.getElem?_eq_some_iff.mp hu).1; simpa using this
    refine wpAny_pyNext_enum_itemD (Draws.tuple (A := X.A.in1) (I.ok.hd hc) it a hai its.toArray) he ⟨hit, ht⟩ hlt hne (by simp [hne, hea]) fun y h' tk hy ho hit' hT hsz hk => ?_
    have ey : y = u := by
      have q : its[i]? = some y := by simpa using hy
      rw [hu] at q; exact (Option.some.inj q).symm
    subst ey
    refine ⟨_, rfl, wpAny_letOwnedTupleGo_enum (s := { s with heap := h', toks := tk + 1 }) ho fun h'' he' sb => ?_⟩
    have hT2 := (sb.2 _ (Nat.ne_of_gt hel)).trans hT
    have new : ObjOk X.prog X.w (upd H s.heap.objs.size (.tup [.int (i : Nat), x])) h'' s.heap.objs.size (.tup [.int (i : Nat), x]) :=
      ⟨by show 2 ≤ sizeLine; decide, [.int i tk, y], .cons ⟨_, rfl⟩ (.cons ru .nil), ⟨_, hT2, rfl, _, rfl⟩⟩
    have I1 : Inv X pins σ (upd H s.heap.objs.size (.tup [.int (i : Nat), x])) { s with heap := h'', toks := tk + 1 } :=
      I.turnedNew (ch := [e, it]) (fun b ob hb q => (sb.2 b (fun z => hb (by simp [z]))).trans (hk b ob (fun z => hb (by simp [z])) (fun z => hb (by simp [z])) q)) hf (Nat.le_refl _) new
    refine ⟨.ref s.heap.objs.size, _, I1, rfl, ⟨_, x, rfl, I.hok.fresh (Nat.le_refl _), rfl, fun ys hy => by rw [I.tuple_inj hy hq]; exact hx⟩, ⟨⟨y, ?_⟩, hit'.1.at fun o q => (sb.2 it (Ne.symm hne)).trans q, hne, hai, hea⟩, fun b hb => ?_⟩
    · rw [show ((i + 1 : Nat) : Int) = (i : Int) + 1 by omega]; exact he'
    · have hb' : b < s.heap.objs.size := by
        rcases (show b = e ∨ b = it by simpa using hb) with rfl | rfl
        · exact hel
        · exact hil
      rw [upd_ne (Nat.ne_of_lt hb')]
      exact (hf b hb).1
  done := by
    intro X hP hw hK hc i pins s σ H E I hf st hg
    subst hP hw hK
    obtain ⟨⟨old, he⟩, hit, hne, hai, hea⟩ := st
    obtain ⟨xs, hq, hx⟩ := hg
    obtain ⟨its, rv, p, hz⟩ := I.tuple hq
    have ht : s.heap.IsTuple a its.toArray := p
    obtain ⟨f0, f1, f2, f3, f4, f5⟩ := hf it (by simp)
    have hl := rv.length
    have out : its.toArray[i]? = none := by simp; omega
    have D : Draws X.prog X.w X.A.in1 it [it, a] i (fun _ _ => True) (fun k h => k = i ∧ h.IsTupleIter it a i ∧ h.IsTuple a its.toArray) :=
      ⟨fun _ _ st => let ⟨o, ho, _⟩ := st.2.1; ⟨o, ho⟩, fun _ _ _ st hk => ⟨st.1, st.2.1.at fun o e => hk it (by simp) o e, st.2.2.at fun o e => hk a (by simp) o e⟩,
        fun k s Q E hi st hQ => absurd st.1 (Nat.ne_of_lt hi), fun s Q E st hE => wpAny_nextOf_tuple_end (I.ok.hd hc) st.2.1 st.2.2 out hE⟩
    exact wpAny_pyNext_enum_endD D he ⟨rfl, hit, ht⟩ fun h' eb => ⟨rfl, I.turned (t' := s.toks) (fun b o hb q => eb b o hb q) f0 f1 f3 f4 f5⟩
  self := fun A i s Q E st h => let ⟨⟨_, he⟩, _⟩ := st; wpAny_pyIter_enum he h
theorem Draws.textEnd {prog : Program} {w : World} {A : Around} (hh : A.handled = none) (it : Addr) (x : Str) (t : Tok) (i : Nat) (out : x.cps[i]? = none) :
    Draws prog w A it [it] i (fun _ _ => True) (fun k h => k = i ∧ h.IsStrIter it (strIterType x) x t i) where
  live := fun _ _ st => let ⟨o, ho, _⟩ := st.2; ⟨o, ho⟩
  frame := fun _ _ _ st hk => let ⟨o, ho, r⟩ := st.2; ⟨st.1, o, hk it (by simp) o ho, r⟩
  item := fun k s Q E hi st hQ => absurd st.1 (Nat.ne_of_lt hi)
  done := fun s Q E st hE => by
    have st := st.2
    cases ha : x.cps.all (· < 128)
    · simp only [strIterType, ha, Bool.false_eq_true, if_false] at st
      exact wpAny_nextOf_wide_end hh st out hE
    · simp only [strIterType, ha, if_true] at st
      exact wpAny_nextOf_ascii_end hh st out hE
def IteS (x : Str) : L2.It :=
  ⟨fun i H => i < x.cps.size, fun i H v H' => ∃ T c, v = .ref T ∧ H T = none ∧ H' = upd H T (.tup [.int (i : Nat), .str ⟨#[c]⟩]) ∧ x.cps[i]? = some c, fun i H => x.cps.size ≤ i⟩
theorem turn_enumS {P : Program} {w : World} {K : PySem.W.Frag} {elts : List Expr} {kk : Nat} {tpos : Pos} (x : Str) (t : Tok) (e it : Addr) :
    Turn P w K (.Tuple elts kk tpos) (IteS x) [e, it] e (fun i h => (∃ old, IsEnum h e it ((i : Nat) : Int) old) ∧ h.IsStrIter it (strIterType x) x t i ∧ e ≠ it) where
  mem := by simp
  obj := fun i h st b hb => by
    obtain ⟨⟨old, he⟩, ⟨o, ho, hc, hd⟩, _⟩ := st
    rcases (show b = e ∨ b = it by simpa using hb) with rfl | rfl
    · exact ⟨_, he, fun v q => nomatch q⟩
    · exact ⟨o, ho, fun v q => by rw [hd] at q; cases q⟩
  keep := fun i h h' st k => let ⟨⟨old, he⟩, ⟨o, ho, r⟩, hne⟩ := st; ⟨⟨old, k e (by simp) _ he⟩, ⟨o, k it (by simp) o ho, r⟩, hne⟩
  item := by
    intro X hP hw hK hc i pins s σ H E I hf st hg
    subst hP hw hK
    obtain ⟨⟨old, he⟩, hit, hne⟩ := st
    have hg : i < x.cps.size := hg
    have hel : e < s.heap.objs.size := Heap.lt_size he
    have hil : it < s.heap.objs.size := by obtain ⟨_, q, _⟩ := hit; exact Heap.lt_size q
    refine wpAny_pyNext_enum_itemD (Draws.text (A := X.A.in1) (I.ok.hd hc) it x t) he hit hg hne (by simp [hne]) fun y h' tk hy ho hit' hT hsz hk => ?_
    obtain ⟨c, u, hcx, rfl⟩ := hy
    refine ⟨_, rfl, wpAny_letOwnedTupleGo_enum (s := { s with heap := h', toks := tk + 1 }) ho fun h'' he' sb => ?_⟩
    have hT2 := (sb.2 _ (Nat.ne_of_gt hel)).trans hT
    have new : ObjOk X.prog X.w (upd H s.heap.objs.size (.tup [.int (i : Nat), .str ⟨#[c]⟩])) h'' s.heap.objs.size (.tup [.int (i : Nat), .str ⟨#[c]⟩]) :=
      ⟨by show 2 ≤ sizeLine; decide, [.int i tk, .str ⟨#[c]⟩ u], .cons ⟨_, rfl⟩ (.cons ⟨_, rfl⟩ .nil), ⟨_, hT2, rfl, _, rfl⟩⟩
    have I1 : Inv X pins σ (upd H s.heap.objs.size (.tup [.int (i : Nat), .str ⟨#[c]⟩])) { s with heap := h'', toks := tk + 1 } :=
      I.turnedNew (ch := [e, it]) (fun b ob hb q => (sb.2 b (fun z => hb (by simp [z]))).trans (hk b ob (fun z => hb (by simp [z])) (fun z => hb (by simp [z])) q)) hf (Nat.le_refl _) new
    have hit2 : h''.IsStrIter it (strIterType x) x t (i + 1) := by
      obtain ⟨o, q, r⟩ := hit'
      exact ⟨o, (sb.2 it (Ne.symm hne)).trans q, r⟩
    refine ⟨.ref s.heap.objs.size, _, I1, rfl, ⟨_, c, rfl, I.hok.fresh (Nat.le_refl _), rfl, hcx⟩, ⟨⟨.str ⟨#[c]⟩ u, ?_⟩, hit2, hne⟩, fun b hb => ?_⟩
    · rw [show ((i + 1 : Nat) : Int) = (i : Int) + 1 by omega]; exact he'
    · have hb' : b < s.heap.objs.size := by
        rcases (show b = e ∨ b = it by simpa using hb) with rfl | rfl
        · exact hel
        · exact hil
      rw [upd_ne (Nat.ne_of_lt hb')]
      exact (hf b hb).1
  done := by
    intro X hP hw hK hc i pins s σ H E I hf st hg
    subst hP hw hK
    obtain ⟨⟨old, he⟩, hit, hne⟩ := st
    have hx : x.cps.size ≤ i := hg
    obtain ⟨f0, f1, f2, f3, f4, f5⟩ := hf it (by simp)
    have out : x.cps[i]? = none := by simp; omega
    exact wpAny_pyNext_enum_endD (Draws.textEnd (A := X.A.in1) (I.ok.hd hc) it x t i out) he ⟨rfl, hit⟩ fun h' eb => ⟨rfl, I.turned (t' := s.toks) (fun b o hb q => eb b o hb q) f0 f1 f3 f4 f5⟩
  self := fun A i s Q E st h => let ⟨⟨_, he⟩, _⟩ := st; wpAny_pyIter_enum he h
def iEnumT (K : PySem.W.Frag) (ta : TA) : TI := fun σ H R => ta σ H fun vs H1 => (∃ a xs, vs = [.ref a] ∧ SqT K H1 a xs ∧ R (IteT K a) H1) ∨ ∃ x, vs = [.str x] ∧ R (IteS x) H1
theorem pi_enumT {X : Cx} {e : Expr} {ta : TA} {p pos tpos : Pos} {elts : List Expr} {kk : Nat} (hg : Gl X "enumerate") (hm : X.mg "enumerate" = none) (ha : PA X [e] ta) (hs : starEach [e] X.env = [(false, eval e X.env)] := by rfl) :
    PI X (.Tuple elts kk tpos) (.Call (.Name "enumerate" p) [e] [] pos) (iEnumT X.K ta) := by
  refine ⟨fun pins s σ H R I h => ?_⟩
  refine Call_ (ld_blt I hg hm boot_enumerate (PyProof.Rows.callWith_type1 (thn (ha.run pos pins s σ H _ I h) fun us s1 ⟨vs, H1, I1, r1, hv⟩ => ?_) hs rfl))
  have le : ∀ {b : Addr} {n : Nat}, b ∈ [n + 1, n] → n ≤ b := fun {b n} hb => by
    rcases (show b = n + 1 ∨ b = n by simpa using hb) with z | z
    · rw [z]; exact Nat.le_add_right _ _
    · rw [z]; exact Nat.le_refl _
  rcases hv with ⟨a, xs, ex, hq, q⟩ | ⟨x, ex, q⟩
  · subst ex
    cases r1 with
    | cons r rr =>
      cases rr
      cases r
      obtain ⟨its, rv, p', hz⟩ := I1.tuple hq
      have ht : s1.heap.IsTuple a its.toArray := p'
      have hal : a < s1.heap.objs.size := by obtain ⟨_, q, _⟩ := ht; exact Heap.lt_size q
      refine call_enumT ht fun h' he hit hk => wpAny_pyIter_enum he ?_
      have I2 : Inv X pins σ H1 { s1 with heap := h' } := I1.kept (t' := s1.toks) hk
      exact ⟨s1.heap.objs.size + 1, [s1.heap.objs.size + 1, s1.heap.objs.size], _, _, H1, rfl, I2, turn_enumT a (s1.heap.objs.size + 1) s1.heap.objs.size, ⟨⟨.none, he⟩, hit, Nat.succ_ne_self _, Nat.ne_of_lt hal, Nat.ne_of_gt (Nat.lt_succ_of_lt hal)⟩, fun b hb => I1.fpOk (le hb) (I1.hok.fresh (le hb)), q⟩
  · subst ex
    obtain ⟨u, rfl, t, rfl⟩ := vals1 r1
    refine call_enumerate_str fun h' he hit hsz hk => wpAny_pyIter_enum he ?_
    have I2 : Inv X pins σ H1 { s1 with heap := h' } := I1.kept (t' := s1.toks) hk
    exact ⟨s1.heap.objs.size + 1, [s1.heap.objs.size + 1, s1.heap.objs.size], _, _, H1, rfl, I2, turn_enumS x t (s1.heap.objs.size + 1) s1.heap.objs.size, ⟨⟨.none, he⟩, hit, Nat.succ_ne_self _⟩, fun b hb => I1.fpOk (le hb) (I1.hok.fresh (le hb)), q⟩
theorem enumD_at : ∀ {xs : List D} {k i : Nat} {d : D}, (enumD k xs)[i]? = some d → ∃ x, xs[i]? = some x ∧ d = .tup [.int ((k + i : Nat) : Int), x]
  | [], _, i, d, h => by simp [enumD] at h
  | x :: xs, k, 0, d, h => by
    simp only [enumD, List.getElem?_cons_zero, Option.some.injEq] at h
    exact ⟨x, rfl, h.symm⟩
  | x :: xs, k, i + 1, d, h => by
    simp only [enumD, List.getElem?_cons_succ] at h
    obtain ⟨y, h1, h2⟩ := enumD_at h
    exact ⟨y, by simpa using h1, by rw [h2, show k + 1 + i = k + (i + 1) by omega]⟩
theorem strD_at {x : Str} {i : Nat} {d : D} (h : (strD x)[i]? = some d) : ∃ c, x.cps[i]? = some c ∧ d = .str ⟨#[c]⟩ := by
  unfold strD at h
  rw [List.getElem?_map] at h
  obtain ⟨c, h1, h2⟩ := Option.map_eq_some_iff.mp h
  exact ⟨c, by simpa using h1, h2.symm⟩
theorem enumD_len : ∀ {xs : List D} {k : Nat}, (enumD k xs).length = xs.length
  | [], _ => rfl
  | x :: xs, k => by simp only [enumD, List.length_cons]; rw [enumD_len]
section
variable {X : Cx} {cA : Nat → Addr} {W : XK} {pos : Pos} {cl : Nat → List D → M D} {C : List D}
/-- enumerate(x), x a tuple -/
theorem i_enm {e : Expr} {a' : E} {p tpos : Pos} {elts : List Expr} {kk : Nat} (hg : Gl X "enumerate") (hm : X.mg "enumerate" = none) (ha : PE X e (tE cA X.K X.w W (ev cl C a'))) (hs : starEach [e] X.env = [(false, eval e X.env)] := by rfl) :
    PI X (.Tuple elts kk tpos) (.Call (.Name "enumerate" p) [e] [] pos) (tI cA X.K X.w W (evi cl C (.enm a'))) :=
  (pi_enumT hg hm (pa_cons ha pa_nil hs) hs).imp fun σ H R ⟨r, m, j, rs, wd, h⟩ => by
    simp only [evi] at h
    refine ⟨r, m, j, rs, wd, (Pst.bnd h).mono fun d m1 H1 j1 e1 wd1 h1 v rv => ?_⟩
    obtain ⟨wk, e, h1⟩ := h1.optM
    have fin : ∀ {a : Addr} {vs : List V} {xs : List D}, RepL X.K X.w H1 j1 xs vs → SqT X.K H1 a vs → (∀ H3 j3, Wx H1 j1 H3 j3 → SqT X.K H3 a vs) → wk = .its (enumD 0 xs) → (∃ b ys, [V.ref a] = [V.ref b] ∧ SqT X.K H1 b ys ∧ R (IteT X.K b) H1) ∨ ∃ x, [V.ref a] = [V.str x] ∧ R (IteS x) H1 := fun {a vs xs} rla q0 get e => by
      subst e
      refine .inl ⟨a, vs, rfl, q0, Pst.ok h1 wd1 _ fun H3 j3 m3 wx wd3 => ?_⟩
      have get := get H3 j3 wx
      have rl3 := rla.wx wx
      refine ⟨fun i d hd => ?_, fun i hi => ?_⟩
      · obtain ⟨x, hx, rfl⟩ := enumD_at hd
        obtain ⟨v, hv, rv⟩ := rl3.get hx
        refine ⟨⟨vs, v, get, hv⟩, fun z H' ⟨T, v', ez, hT, eH, q1⟩ => ?_⟩
        have := q1 vs get
        rw [hv] at this; cases this
        subst ez eH
        rw [Nat.zero_add]
        exact pair_new wd3 hT (by simp only [Rep]) rv
      · rw [enumD_len, rla.length] at hi
        exact ⟨vs, get, hi⟩
    unfold enmW at e
    split at e
    · rename_i xs
      cases e
      simp only [Rep] at rv
      obtain ⟨a, vs, rfl, qa, rla⟩ := rv
      refine fin rla (tup_sq qa) (fun H3 j3 wx => ?_) rfl
      rcases qa with ⟨h1, h2⟩ | h
      · exact .inl (wx.rd h1 h2).2
      · exact .inr h
    · rename_i x
      cases e
      simp only [Rep] at rv
      subst rv
      refine .inr ⟨x, rfl, Pst.ok h1 wd1 _ fun H3 j3 m3 wx wd3 => ⟨fun i d hd => ?_, fun i hi => ?_⟩⟩
      · obtain ⟨z, hz, rfl⟩ := enumD_at hd
        obtain ⟨c, hc, rfl⟩ := strD_at hz
        refine ⟨(Array.getElem?_eq_some_iff.mp hc).1, fun v H' ⟨T, c', ez, hT, eH, q1⟩ => ?_⟩
        rw [hc] at q1; cases q1
        subst ez eH
        rw [Nat.zero_add]
        exact pair_new wd3 hT (by simp only [Rep]) (by simp only [Rep])
      · rw [enumD_len] at hi
        show x.cps.size ≤ i
        simpa [strD] using hi
    · rename_i n
      simp only [Rep] at rv
      obtain ⟨a, rfl, qa⟩ := rv
      split at e
      · rename_i xs hm
        cases e
        obtain ⟨o, vs, q1, _, rla⟩ := wd1.at_ _ _ _ qa hm
        exact fin rla (.inl (.inr ⟨o, q1⟩)) (fun H3 j3 wx => .inl (.inr ⟨o, wx.frz a o _ q1⟩)) rfl
      · cases e
    · cases e
end
end Mp
end
section -- MpR
set_option Elab.async false
set_option linter.all false
set_option maxRecDepth 100000
set_option maxHeartbeats 4000000
/-! Mp, part R: two dicts put into a new one, stars, enumerate, sorted, max, dict of pairs. -/
namespace Mp
open PySem L2 PyProof.Rows
section
variable {prog : Program} {w : World} {K : Type} [DecidableEq K] {knd : KeyKind prog w K} {A : Around} {E : Value → Shared → Prop} {s : Shared}
theorem put_of {d : Addr} {kvs : List (K × Value)} {k : K} {y v : Value} {Q : Unit → Shared → Prop} (hy : knd.is k y = true) (dd : s.heap.DictOf knd d kvs) (hz : kvs.length ≤ sizeLine)
    (h : ∀ h', h'.DictOf knd d (stored kvs k v) → Heap.SameBut d s.heap h' → Q () { s with heap := h' }) : wpAny (model prog w) A (dictPut d (knd.hash k) y v) Q E s := by
  obtain ⟨o, es, ep, ho, hc, hd, hk, hp, hn⟩ := dd
  have hz' : es.size ≤ sizeLine := by
    have q := hp.length
    rw [Array.length_toList] at q
    omega
  have same : (es.findIdx? fun e => knd.is k e.key) = kvs.findIdx? fun kv => decide (kv.1 = k) := by
    have q := hp.findIdx k
    obtain ⟨l⟩ := es
    simpa using q
  unfold dictPut
  refine wpAny_bind (wpAny_dictFind_of hy ho hd hk ?_)
  cases hi : es.findIdx? fun e => knd.is k e.key with
  | some i =>
    have yes := any_of_findIdx_some (same.symm.trans hi)
    have new : stored kvs k v = kvs.map fun kv => if kv.1 = k then (kv.1, v) else kv := by unfold stored; exact if_pos yes
    refine wpAny_updateDict ho hd (h _ ?_ (Heap.SameBut.update ..))
    rw [new]
    refine ⟨_, _, ep, Heap.get?_update_self _ ho (Obj.isFreed_of_dict (Obj.data_mapDict hd _)), hc.mapDict _, Obj.data_mapDict hd _, hk.modify _ _, ?_, by rw [keys_map_store]; exact hn⟩
    have hl : (es.toList.findIdx? fun e => knd.is k e.key) = some i := by
      rw [← hi]
      obtain ⟨l⟩ := es
      simp
    have q := hp.modify hn hl v
    obtain ⟨l⟩ := es
    simpa using q
  | none =>
    have no := not_mem_of_findIdx_none (same.symm.trans hi)
    have new : stored kvs k v = kvs ++ [(k, v)] := by
      unfold stored
      refine if_neg fun q => ?_
      obtain ⟨kv, h1, h2⟩ := List.any_eq_true.mp q
      exact no (List.mem_map.mpr ⟨kv, h1, of_decide_eq_true h2⟩)
    refine wpAny_updateDictKeys (hz := hz') ho hd (h _ ?_ (Heap.SameBut.update ..))
    rw [new]
    refine ⟨_, _, ep + 1, Heap.get?_update_self _ ho (Obj.isFreed_of_dict (Obj.data_mapDictKeys hd _)), hc.mapDictKeys _, Obj.data_mapDictKeys hd _, hk.push hy _, ?_, ?_⟩
    · have q := hp.append hy (knd.hash k) v
      obtain ⟨l⟩ := es
      simpa using q
    · rw [List.map_append]
      exact List.nodup_append.mpr ⟨hn, by simp, fun a ha b hb e => no (by simp at hb; rw [← hb, ← e]; exact ha)⟩
/-- all of a into d -/
theorem merge_of {d a : Addr} {kvs more : List (K × Value)} {Q : Unit → Shared → Prop} (hne : d ≠ a) (hs : (a == sysModules) = false) (dd : s.heap.DictOf knd d kvs) (da : s.heap.DictOf knd a more) (hz : kvs.length + more.length ≤ sizeLine) (hnr : ∀ k y, knd.is k y = true → ∀ b, y ≠ .ref b)
    (h : ∀ h', h'.DictOf knd d (merged kvs more) → Heap.SameBut d s.heap h' → Q () { s with heap := h' }) : wpAny (model prog w) A (mergeMapping d (.ref a) false) Q E s := by
  obtain ⟨od, esd, epd, hod, hcd, hdd, hkd, hpd, hnd⟩ := id dd
  obtain ⟨oa, esa, epa, hoa, hca, hda, hka, hpa, hna⟩ := id da
  have ty : s.TypeIs (.ref a) "dict" := da.typeIs
  unfold mergeMapping
  refine wpAny_bind (wpAny_isInstance (b := true) ty rfl ?_)
  show wpAny _ _ (specialOf (.ref a) "__iter__" >>= _) _ _ _
  refine wpAny_bind (wpAny_specialOf (r := some (.builtin "dict.__iter__")) ty rfl ?_)
  dsimp only
  have loop : ∀ s0 : Shared, s0 = s → wpAny (model prog w) A (forIn (List.range esa.size) PUnit.unit fun i __s => do
      let l ← dictEntries a
      match l[i]? with
      | some e => do
        holding [e.key, e.val] (dictPut d e.hash e.key e.val)
        let ep' ← dictEpoch a
        if (ep' != epa) = true then do
          unsupported "dict.changed-during-merge"
          pure (ForInStep.yield PUnit.unit)
        else pure (ForInStep.yield PUnit.unit)
      | _ => do
        unsupported "dict.changed-during-merge"
        pure (ForInStep.yield PUnit.unit)) (fun _ s' => Q () s') E s0 := by
    rintro s0 rfl
    have hlen : more.length = esa.size := by rw [← hpa.length]; simp
    refine wpAny_forIn_list _ (fun rest _ s' => ∃ h' i, s' = { s0 with heap := h' } ∧ rest = (List.range esa.size).drop i ∧ i ≤ esa.size ∧ h'.DictOf knd d (merged kvs (more.take i)) ∧ h'.get? a = some oa ∧ Heap.SameBut d s0.heap h') _ ?_ ?_ _ _ ⟨s0.heap, 0, rfl, rfl, Nat.zero_le _, by simpa [merged] using dd, hoa, Heap.SameBut.refl _ _⟩
    · rintro x rest b s' ⟨h', i, rfl, hr, hi, hd', hoa', hs'⟩
      have hlt : i < esa.size := by
        rcases Nat.lt_or_ge i esa.size with q | q
        · exact q
        · rw [List.drop_eq_nil_of_le (by simpa using q)] at hr; cases hr
      rw [List.drop_eq_getElem_cons (by simpa using hlt)] at hr
      injection hr with hx hrest
      have hx : x = i := by simpa using hx
      subst hx
      refine wpAny_bind (wpAny_dictEntries hoa' hda ?_)
      rw [Array.getElem?_eq_getElem hlt]
      obtain ⟨⟨k, v⟩, hkv⟩ : ∃ kv, more[x]? = some kv := ⟨more[x]'(by rw [hlen]; exact hlt), List.getElem?_eq_getElem _⟩
      obtain ⟨hkey, hval⟩ := hpa.get? (e := esa[x]) (by simp [hlt]) hkv
      obtain ⟨k', hkey', hh⟩ := hka esa[x] (Array.getElem_mem hlt)
      have ek : k' = k := knd.inj _ _ _ hkey' hkey
      subst ek
      have hm : (merged kvs (more.take x)).length ≤ sizeLine := by
        have q1 := merged_length_le kvs (more.take x)
        have q2 : (more.take x).length ≤ more.length := by rw [List.length_take]; omega
        omega
      dsimp only
      rw [hh, hval]
      refine wpAny_bind (wpAny_holding (put_of hkey hd' hm fun h2 d2 s2 => ?_))
      have hoa2 : h2.get? a = some oa := (s2.2 a (Ne.symm hne)).trans hoa'
      refine wpAny_bind (wpAny_dictEpoch hoa2 hda ?_)
      rw [if_neg (by simp)]
      exact wpAny_pure ⟨h2, x + 1, rfl, hrest, hlt, by rw [merged_take_succ kvs more x (k', v) hkv]; exact d2, hoa2, hs'.trans s2⟩
    · rintro b s' ⟨h', i, rfl, hr, hi, hd', hoa', hs'⟩
      have hin : i = esa.size := by
        have q := congrArg List.length hr
        simp at q
        omega
      subst hin
      rw [← hlen, List.take_length] at hd'
      exact h h' hd' hs'
  refine wpAny_bind (wpAny_pure ?_)
  have e1 : (some (Value.builtin "dict.__iter__") == some (Value.builtin "dict.__iter__")) = true := by simp
  rw [e1]
  dsimp only
  rw [if_neg (by rw [hs]; exact Bool.false_ne_true)]
  refine wpAny_bind (wpAny_dictEntries hod hdd ?_)
  have fin : wpAny (model prog w) A (forIn (List.range esa.size) PUnit.unit fun i __s => do
      let l ← dictEntries a
      match l[i]? with
      | some e => do
        holding [e.key, e.val] (dictPut d e.hash e.key e.val)
        let ep' ← dictEpoch a
        if (ep' != epa) = true then do
          unsupported "dict.changed-during-merge"
          pure (ForInStep.yield PUnit.unit)
        else pure (ForInStep.yield PUnit.unit)
      | _ => do
        unsupported "dict.changed-during-merge"
        pure (ForInStep.yield PUnit.unit)) (fun _ s' => wpAny (model prog w) A (pure ()) Q E s') E s := wpAny_mono (loop s rfl) (fun _ s' q => wpAny_pure q) fun _ _ q => q
  simp only [Bool.false_eq_true, if_false]
  cases he : esd.isEmpty with
  | false =>
    rw [if_neg (by simp)]
    refine wpAny_bind (wpAny_dictEntries hoa hda ?_)
    refine wpAny_bind (wpAny_dictEpoch hoa hda ?_)
    exact wpAny_bind fin
  | true =>
    rw [if_pos rfl]
    refine wpAny_bind (wpAny_dictEntries hoa hda ?_)
    refine wpAny_bind ?_
    refine MeetsSeq2.wpAny_forIn_array _ (fun rest _ s' => s' = s ∧ ∀ e ∈ rest, e ∈ esa) _ ?_ ?_ _ _ ⟨rfl, fun e q => by simpa using q⟩
    · rintro e rest b s' ⟨rfl, hm⟩
      obtain ⟨k, hk, _⟩ := hka e (hm e List.mem_cons_self)
      have nr := hnr k e.key hk
      refine (?_ : wpAny _ _ _ _ _ _)
      cases hke : e.key with
      | ref b => exact absurd hke (nr b)
      | _ => exact wpAny_pure ⟨rfl, fun e q => hm e (List.mem_cons_of_mem _ q)⟩
    · rintro b s' ⟨rfl, _⟩
      refine wpAny_bind (wpAny_dictEntries hoa hda ?_)
      refine wpAny_bind (wpAny_dictEpoch hoa hda ?_)
      exact wpAny_bind fin
end
end Mp
end
section -- MpS
/-! Mp, part S: rows of dicts stand in part C2. -/
end
section -- MpT
set_option Elab.async false
set_option linter.all false
set_option maxRecDepth 100000
set_option maxHeartbeats 4000000
/-! Mp, part T: {**a, **b}. -/
namespace Mp
open PySem L2 PyProof.Rows
section
variable {X : Cx} {cA : Nat → Addr} {W : XK} {pos : Pos} {cl : Nat → List D → M D} {C : List D}
/-- an object of ours that stood untracked is tracked -/
theorem adopt {pins : List (Addr × Obj)} {σ : L2.St} {H : Hp} {s : Shared} {d : Addr} {o : HO} (I : Inv X pins σ H s) (hn : H d = none) (h0 : X.s_0.heap.objs.size ≤ d) (hL : d ≠ X.env.locals) (hc : ∀ x c, X.env.cells.lookup x = some c → c ≠ d) (hp : ∀ p ∈ X.pn ++ pins, p.1 ≠ d)
    (new : ObjOk X.prog X.w (upd H d o) s.heap d o) : Inv X pins σ (upd H d o) s := by
  have ne : ∀ {b : Addr} {u : HO}, H b = some u → b ≠ d := fun e z => by rw [z, hn] at e; cases e
  refine ⟨I.ok, I.os, I.bare, ⟨I.base.keep, I.base.slot, fun b q e1 e2 e3 => ?_, I.base.there, fun b xs e => ?_, fun b q u e => ?_, fun b ps e => ?_⟩, I.loc, I.cell, ?_, fun x c e => ?_, fun p hp' => ?_, fun b u e => ?_, I.len⟩
  · have hb : b ≠ d := by
      rintro rfl
      exact absurd (Heap.lt_size e1) (Nat.not_lt.mpr h0)
    rw [upd_ne hb]; exact I.base.free b q e1 e2 e3
  · have q := I.base.tups b xs e
    rw [upd_ne (ne q)]; exact q
  · have q := I.base.frzs b q u e
    rw [upd_ne (ne q)]; exact q
  · obtain ⟨more, q⟩ := I.base.tbls b ps e
    exact ⟨more, by rw [upd_ne (ne q)]; exact q⟩
  · rw [upd_ne (Ne.symm hL)]; exact I.free
  · rw [upd_ne (hc x c e)]; exact I.freeC x c e
  · obtain ⟨q1, q2, q3, q4, q5⟩ := I.pin p hp'
    exact ⟨q1, by rw [upd_ne (hp p hp')]; exact q2, q3, q4, q5⟩
  · by_cases hb : b = d
    · subst hb
      rw [upd_same] at e
      cases e
      exact new
    · rw [upd_ne hb] at e
      exact (I.hok b u e).stay (fun c v _ q => q) (fun c q => by rw [upd_ne (ne q)]; exact q) fun c xs q => by rw [upd_ne (ne q)]; exact q
theorem noref {P : Program} {w : World} : ∀ (k : Key) (y : Value), (mixKind P w).is k y = true → ∀ b, y ≠ .ref b := fun k y h b e => by
  rcases keyIs_shape (show keyIs k y = true from h) with ⟨i, t, rfl, rfl⟩ | ⟨x, t, rfl, rfl⟩ <;> cases e
theorem kv_fst {kvs : List (Key × V)} {vs : List (Key × Value)} (r : KV kvs vs) : kvs.map (·.1) = vs.map (·.1) := by
  unfold KV at r
  induction r with
  | nil => rfl
  | cons h _ ih => simp only [List.map_cons, ih, h.1]
theorem merge_fresh : ∀ (more acc : List (Key × V)), ((acc ++ more).map (·.1)).Nodup → mergeK acc more = acc ++ more
  | [], acc, _ => by simp [mergeK]
  | p :: more, acc, h => by
    have hp : p.1 ∉ acc.map (·.1) := by
      rw [List.map_append, List.map_cons] at h
      intro z
      exact (List.nodup_append.mp h).2.2 _ z _ List.mem_cons_self rfl
    have e : L2.putK acc p.1 p.2 = acc ++ [(p.1, p.2)] := by
      unfold L2.putK
      rw [if_neg]
      intro q
      obtain ⟨a, h1, h2⟩ := List.any_eq_true.mp q
      exact hp (List.mem_map.mpr ⟨a, h1, of_decide_eq_true h2⟩)
    show mergeK (L2.putK acc p.1 p.2) more = _
    rw [e, merge_fresh more (acc ++ [(p.1, p.2)]) (by simpa using h)]
    simp
theorem merge_len : ∀ (more acc : List (Key × V)), (mergeK acc more).length ≤ acc.length + more.length
  | [], acc => by simp [mergeK]
  | p :: more, acc => by
    have h1 := merge_len more (L2.putK acc p.1 p.2)
    have h2 := length_putK acc p.1 p.2
    show (mergeK (L2.putK acc p.1 p.2) more).length ≤ _
    rw [List.length_cons]
    omega
/-- what a display merges: the dict d, which stands untracked, takes a's pairs -/
theorem d_merge {pins : List (Addr × Obj)} {σ : L2.St} {H : Hp} {s : Shared} {d a : Addr} {o : Obj} {kvs more : List (Key × V)} {vs : List (Key × Value)} {E : Value → Shared → Prop} {Q : Unit → Shared → Prop} (I : Inv X ((d, o) :: pins) σ H s) (rel : KV kvs vs) (dd : s.heap.DictOf (mixKind X.prog X.w) d vs) (hA : H a = some (.dK more)) (h0 : X.s_0.heap.objs.size ≤ d)
    (hz : kvs.length + more.length ≤ sizeLine) (hc : ∀ x c, X.env.cells.lookup x = some c → c ≠ d) (hp : ∀ p ∈ X.pn ++ pins, p.1 ≠ d) (h : ∀ o' vs' s', KV (mergeK kvs more) vs' → s'.heap.DictOf (mixKind X.prog X.w) d vs' → Inv X ((d, o') :: pins) σ H s' → Q () s') :
    wpAny (model X.prog X.w) X.A (mergeMapping d (.ref a) false) Q E s := by
  obtain ⟨q1, q2, q3, q4, q5⟩ := I.pin (d, o) (List.mem_append_right _ List.mem_cons_self)
  have hne : d ≠ a := by rintro rfl; rw [q2] at hA; cases hA
  obtain ⟨z, hs, us, ru, da⟩ := dk_of I.hok hA
  refine merge_of hne hs dd da (by rw [← rel.length, ← ru.length]; exact hz) noref fun h' dd' sb => ?_
  obtain ⟨o', es, ep, ho', hx, hd', r'⟩ := id dd'
  have I0 : Inv X pins σ H s := I.pins_of fun p hp => I.pin p (List.mem_append_right _ (List.mem_cons_of_mem _ hp))
  have It : Inv X pins σ H { s with heap := h' } := I0.turned (t' := s.toks) (it := d) (fun b q hb e => (sb.2 b hb).trans e) q2 q3 (.inr h0) hc hp
  refine h o' _ _ (KV.merge ru rel) dd' (It.pins_of fun p hp' => ?_)
  rcases List.mem_cons.mp hp' with rfl | hp'
  · exact ⟨ho', q2, q3, q4, fun v e => by rw [hd'] at e; cases e⟩
  · exact It.pin p (List.mem_append_right _ hp')
theorem s_mrg {ea eb : Expr} {a' b' : E} (ha : PE X ea (tE cA X.K X.w W (ev cl C a'))) (hb : PE X eb (tE cA X.K X.w W (ev cl C b'))) : PE X (.Dict [none, none] [ea, eb] pos) (tE cA X.K X.w W (ev cl C (.mrg a' b'))) := by
  refine ⟨fun pins s σ H Q I ⟨r, m, j, rs, wd, h⟩ => ?_⟩
  simp only [ev] at h
  rw [arm_eval_Dict]
  refine wpAny_bind (wpAny_standAt ?_)
  show wpAny _ _ (dictDisplay [(none, do let x ← eval ea X.env; standAt pos; pure x), (none, do let x ← eval eb X.env; standAt pos; pure x)]) _ _ _
  unfold dictDisplay
  simp only [List.forIn_cons, List.forIn_nil, List.isEmpty_nil, if_true, pure_bind, bind_assoc]
  refine wpAny_bind (wpAny_alloc ?_)
  generalize hd : s.heap.objs.size = d
  generalize ho : ({ cls := .type "dict", data := .dict #[] } : Obj) = o
  have hL : d ≠ X.env.locals := Nat.ne_of_gt (hd ▸ I.lt)
  have hz0 : X.s_0.heap.objs.size ≤ d := hd ▸ I.sz
  have hcl : ∀ x c, X.env.cells.lookup x = some c → c ≠ d := fun x c e z => by
    obtain ⟨v, q, hq, _⟩ := I.cell x c e
    exact Nat.ne_of_lt (hd ▸ Heap.lt_size hq) z
  have hpn : ∀ p ∈ X.pn ++ pins, p.1 ≠ d := fun p hp z => by
    exact Nat.ne_of_lt (hd ▸ Heap.lt_size (I.pin p hp).1) z
  have hsys : (d == sysModules) = false := beq_eq_false_iff_ne.mpr (Nat.ne_of_gt (hd ▸ I.big))
  have I1 : Inv X pins σ H { s with heap := s.heap.push o } := I.kept (t' := s.toks) fun b u e => Heap.get?_push_of_some _ e
  have pinI : ∀ (p : Addr × Obj), p ∈ (d, o) :: pins → ({ s with heap := s.heap.push o } : Shared).heap.get? p.1 = some p.2 ∧ H p.1 = none ∧ p.1 ≠ X.env.locals ∧ p.1 ∉ X.fs ∧ ∀ v, p.2.data ≠ .cell v := fun p hp => by
    rcases List.mem_cons.mp hp with rfl | hp
    · refine ⟨?_, I.hok.fresh (Nat.le_of_eq hd), hL, I.nofs (Nat.le_of_eq hd), fun v e => by rw [← ho] at e; cases e⟩
      rw [← hd]
      exact Heap.get?_push_size _ (by rw [← ho]; rfl)
    · exact I1.pin p (List.mem_append_right _ hp)
  have I2 := I1.pins_of pinI
  have d0 : ({ s with heap := s.heap.push o } : Shared).heap.DictOf (mixKind X.prog X.w) d [] := by
    rw [← ho, ← hd]
    exact Heap.DictOf.new s.heap
  -- the first
  refine wpAny_bind (wpAny_holding (wpAny_bind (wpAny_mono (ha.run ((d, o) :: pins) _ σ H (fun v H1 => ∃ x m1 j1, Rep X.K X.w H1 j1 x v ∧ RS X.K X.w H1 j1 σ r ∧ Ext H j H1 j1 ∧ Wd X.K X.w H1 j1 m1 ∧ Pst cA X.K X.w W H1 j1 (fun d _ H' j' => ∀ v, Rep X.K X.w H' j' d v → Q v H') ((match x with
    | D.dct ks vs => (ev cl C b' r).bnd fun y => match y with
      | D.dct qs ws => if ks.length + qs.length ≤ sizeLine then M.ret (D.dct (putAllK ks vs qs ws).1 (putAllK ks vs qs ws).2) else M.bad
      | _ => M.bad
    | _ => M.bad) m1)) I2 ⟨r, m, j, rs, wd, (Pst.bnd h).mono fun x m1 H1 j1 e1 wd1 h1 v rv => ⟨x, m1, j1, rv, rs.ext e1, e1, wd1, h1⟩⟩) (fun u s2 hu => ?_) fun _ _ e => e)))
  obtain ⟨v, H1, I3, ru, x, m1, j1, rv, rs1, e1, wd1, h1⟩ := hu
  refine wpAny_bind (wpAny_standAt (wpAny_pure ?_))
  cases x with
  | dct ks ds =>
    simp only [Rep] at rv
    obtain ⟨a, vs, rfl, hja, hA, hl, rl⟩ := rv
    cases (show u = Value.ref a from ru)
    refine wpAny_bind (wpAny_onRaise (wpAny_tryCatch (wpAny_onRaise (wpAny_holding ?_))))
    have d3 : s2.heap.DictOf (mixKind X.prog X.w) d [] := by
      obtain ⟨o1, es, ep, k1, k2, k3, k4, k5, k6⟩ := d0
      have : o1 = o := by
        have := (pinI (d, o) List.mem_cons_self).1
        rw [k1] at this; exact Option.some.inj this
      subst this
      exact ⟨o1, es, ep, (I3.pin _ (List.mem_append_right _ List.mem_cons_self)).1, k2, k3, k4, k5, k6⟩
    obtain ⟨zk, _, _, _, _⟩ := dk_of I3.hok hA
    refine d_merge I3 .nil d3 hA hz0 (by simpa using zk) hcl hpn fun o4 vs4 s4 rel4 d4 I4 => ?_
    have nd : ks.Nodup := by
      obtain ⟨_, _, vs', rv', dv⟩ := dk_of I3.hok hA
      obtain ⟨_, _, _, _, _, _, _, _, k6⟩ := dv
      rw [← kv_fst rv', zip_fst hl] at k6
      exact k6
    -- the second
    refine wpAny_bind (wpAny_holding (wpAny_bind (wpAny_mono (hb.run ((d, o4) :: pins) _ σ H1 (fun v H2 => ∃ y m2 j2, Rep X.K X.w H2 j2 y v ∧ Ext H1 j1 H2 j2 ∧ Wd X.K X.w H2 j2 m2 ∧ Pst cA X.K X.w W H2 j2 (fun d _ H' j' => ∀ v, Rep X.K X.w H' j' d v → Q v H') ((match y with
      | D.dct qs ws => if ks.length + qs.length ≤ sizeLine then M.ret (D.dct (putAllK ks ds qs ws).1 (putAllK ks ds qs ws).2) else M.bad
      | _ => M.bad) m2)) I4 ⟨r, m1, j1, rs1, wd1, (Pst.bnd h1).mono fun y m2 H2 j2 e2 wd2 h2 v rv => ⟨y, m2, j2, rv, e2, wd2, h2⟩⟩) (fun u s5 hu => ?_) fun _ _ e => e)))
    obtain ⟨v, H2, I5, ru, y, m2, j2, rv2, e2, wd2, h2⟩ := hu
    refine wpAny_bind (wpAny_standAt (wpAny_pure ?_))
    cases y with
    | dct qs es =>
      simp only [Rep] at rv2
      obtain ⟨b, us, rfl, hjb, hB, hl2, rl2⟩ := rv2
      cases (show u = Value.ref b from ru)
      refine wpAny_bind (wpAny_onRaise (wpAny_tryCatch (wpAny_onRaise (wpAny_holding ?_))))
      obtain ⟨hsz, h2⟩ := Pst.ite h2
      have d5 : s5.heap.DictOf (mixKind X.prog X.w) d vs4 := by
        obtain ⟨o1, es', ep, k1, k2, k3, k4, k5, k6⟩ := d4
        have : o1 = o4 := by
          have := (I4.pin (d, o4) (List.mem_append_right _ List.mem_cons_self)).1
          rw [k1] at this; exact Option.some.inj this
        subst this
        exact ⟨o1, es', ep, (I5.pin _ (List.mem_append_right _ List.mem_cons_self)).1, k2, k3, k4, k5, k6⟩
      have em : mergeK [] (ks.zip vs) = ks.zip vs := merge_fresh _ [] (by rw [List.nil_append, zip_fst hl]; exact nd)
      rw [em] at rel4
      refine d_merge I5 rel4 d5 hB hz0 (by simpa [← hl, ← hl2] using hsz) hcl hpn fun o6 vs6 s6 rel6 d6 I6 => ?_
      obtain ⟨xs, g1, g2, g3, g4⟩ := merge_zip (es := es) (ds := ds) hl2 rl2 nd hl (RepL.ext e2 _ _ rl)
      refine wpAny_pure ?_
      have q2 := (I6.pin (d, o6) (List.mem_append_right _ List.mem_cons_self)).2.1
      have I7 : Inv X pins σ H2 s6 := I6.pins_of fun p hp => I6.pin p (List.mem_append_right _ (List.mem_cons_of_mem _ hp))
      have hlen : (mergeK (ks.zip vs) (qs.zip us)).length ≤ sizeLine := by
        refine Nat.le_trans (merge_len _ _) ?_
        simpa [← hl, ← hl2] using hsz
      have I8 := adopt I7 q2 hz0 hL hcl hpn (dk_new hlen hsys rel6 d6)
      refine ⟨.ref d, _, I8, rfl, h2 _ j2 (Ext.new1 q2) (wd2.same (Same.new q2)) _ ?_⟩
      simp only [Rep]
      refine ⟨d, xs, rfl, fun z => ?_, by rw [g1]; exact upd_same, g2, RepL.ext (Ext.new1 q2) _ _ g3⟩
      obtain ⟨o', q⟩ := wd2.there' z
      rw [q2] at q; cases q
    | _ => exact h2.elim
  | _ => exact h1.elim
end
end Mp
end
section -- MpX
set_option Elab.async false
set_option linter.all false
set_option maxRecDepth 100000
set_option maxHeartbeats 4000000
/-! Mp, part X: tuples that are known, stars, displays of a pair, sorted, max, dict. -/
namespace Mp
open PySem L2 PyProof.Rows
theorem Ext.add {H : Hp} {j : J} {p : Addr} {o : HO} (hp : H p = none) : Ext H j (upd H p o) (j.add p) := ⟨⟨⟨[p], rfl⟩, fun a u _ q => Same.new hp a u q, fun a ha => by
    rcases ha with ha | ha
    · rcases List.mem_append.mp ha with z | z
      · exact .inl (.inl z)
      · rw [List.mem_singleton.mp z]; exact .inr hp
    · exact .inl (.inr ha), fun a o u q => Same.new hp a _ q⟩, rfl, fun a u _ q => Same.new hp a u q⟩
section
variable {X : Cx} {cA : Nat → Addr} {W : XK} {pos : Pos} {cl : Nat → List D → M D} {C : List D}
/-- a new tuple whose object is known -/
theorem lay_tup {pins : List (Addr × Obj)} {σ : L2.St} {H : Hp} {s : Shared} {h' : Heap} {its : List Value} {vs : List V} {xs : List D} {m : Sto} {j : J} {Q : VK} (I : Inv X pins σ H { s with heap := h' }) (rv : Vals vs its) (hz : vs.length ≤ sizeLine) (wd : Wd X.K X.w H j m) (rl : RepL X.K X.w H j xs vs)
    (h : ∀ H' j', Ext H j H' j' → Wd X.K X.w H' j' (m ++ [.tup xs]) → ∀ v, Rep X.K X.w H' j' (.ref m.length) v → Q v H') : EP X pins σ Q (.ref h'.objs.size) { s with heap := h'.push { cls := .type "tuple", data := .seq its.toArray } } := by
  have hp : H h'.objs.size = none := I.hok.fresh (Nat.le_refl _)
  have I2 : Inv X pins σ (upd H h'.objs.size (.frz { cls := .type "tuple", data := .seq its.toArray } (.tup vs))) { s with heap := h'.push { cls := .type "tuple", data := .seq its.toArray } } :=
    I.laid (t' := s.toks) (fun b o e => Heap.get?_push_of_some _ e) (Nat.le_refl _) ⟨Heap.get?_push_size _ rfl, hz, its, rv, IsTup.new _ _⟩
  obtain ⟨e2, wd2⟩ := wd.push (o := .frz { cls := .type "tuple", data := .seq its.toArray } (.tup vs)) (c := .tup xs) hp ⟨_, vs, upd_same, rfl, RepL.ext (Ext.add hp) _ _ rl⟩
  refine ⟨.ref h'.objs.size, _, I2, rfl, h _ _ e2 wd2 _ ?_⟩
  simp only [Rep]
  refine ⟨_, rfl, ?_⟩
  show (j.ix ++ [_])[m.length]? = _
  rw [← wd.len, List.getElem?_append_right (Nat.le_refl _)]
  simp
theorem s_tp0 {k : Nat} : PE X (.Tuple [] k pos) (tE cA X.K X.w W (ev cl C .tp0)) := by
  refine ⟨fun pins s σ H Q I ⟨r, m, j, rs, wd, h⟩ => ?_⟩
  simp only [ev] at h
  refine wpAny_Tuple_spliced (thn (pa_nil.run pos pins s σ H (fun vs H1 => vs = [] ∧ H1 = H) I ⟨rfl, rfl⟩) fun us s1 ⟨xs, H1, I1, r, e, eH⟩ => ?_)
  subst e eH
  cases r
  exact ⟨Nat.zero_le _, lay_tup (its := []) (xs := []) I1 .nil (Nat.zero_le _) wd .nil h⟩
theorem s_tpm {x : Str} {p : Pos} {e : Expr} {a' : E} (hx : x = "tuple") (ha : PE X e (tE cA X.K X.w W (ev cl C a'))) (hg : Gl X x) (hm : X.mg x = none) (hv : bootBuiltins x = some (.type "tuple")) (hs : starEach [e] X.env = [(false, eval e X.env)] := by rfl) (hpl : (backTo pos (starEach [] X.env)).any (·.1) = false := by rfl) :
    PE X (.Call (.Name x p) [e] [] pos) (tE cA X.K X.w W (ev cl C (.tpm a'))) := by
  subst hx
  refine ⟨fun pins s σ H Q I ⟨r, m, j, rs, wd, h⟩ => ?_⟩
  simp only [ev] at h
  refine Call_ (ld_blt I hg hm hv (PyProof.Rows.callWith_type1 (thn ((pa_cons ha pa_nil hs).run pos pins s σ H (fun vs H1 => ∃ v d m1 j1, vs = [v] ∧ Rep X.K X.w H1 j1 d v ∧ Wd X.K X.w H1 j1 m1 ∧ Pst cA X.K X.w W H1 j1 (fun d _ H' j' => ∀ v, Rep X.K X.w H' j' d v → Q v H') (match lstOf m1 d with
    | some xs => R.ok (D.ref m1.length) (m1 ++ [.tup xs])
    | none => R.bad)) I ⟨r, m, j, rs, wd, (Pst.bnd h).mono fun d m1 H1 j1 e1 wd1 h1 v rv => ⟨v, d, m1, j1, rfl, rv, wd1, h1⟩⟩) fun us s1 ⟨vs, H1, I1, rr, v, d, m1, j1, ev', rv, wd1, h1⟩ => ?_) hs rfl))
  subst ev'
  obtain ⟨u, rfl, ru⟩ := vals1 rr
  cases hl : lstOf m1 d with
  | none => rw [hl] at h1; exact h1.elim
  | some xs =>
    rw [hl] at h1
    obtain ⟨a, vs, rfl, hq, rl⟩ := lst_of wd1 rv hl
    cases (show u = Value.ref a from ru)
    obtain ⟨its, r', pl, hz⟩ := I1.list (.inl hq)
    have hlen := r'.length
    refine call_tuple_list pl.isList (fun h' kp => ?_) (by simp only [List.size_toArray] <;> omega)
    exact lay_tup (I1.kept (t' := s1.toks) kp) r' hz wd1 rl h1
end
end Mp
end
section -- MpY
set_option Elab.async false
set_option linter.all false
set_option maxRecDepth 100000
set_option maxHeartbeats 4000000
/-! Mp, part Y: max, sorted, dict, a star at the end, a pair in braces. -/
namespace Mp
open PySem L2 PyProof.Rows
section
variable {X : Cx}
theorem ints_repl {K : PySem.W.Frag} {w : World} {H : Hp} {j : J} : ∀ {xs : List D} {bs : List Int} {vs : List V}, intsOf xs = some bs → RepL K w H j xs vs → vs = bs.map V.int
  | [], bs, vs, e, rl => by simp only [intsOf] at e; cases e; simp only [RepL] at rl; exact rl
  | .int b :: xs, bs, vs, e, rl => by
    simp only [intsOf] at e
    obtain ⟨r, e1, rfl⟩ := Option.map_eq_some_iff.mp e
    simp only [RepL] at rl
    obtain ⟨v, vr, rfl, rv, rr⟩ := rl
    simp only [Rep] at rv
    rw [rv, ints_repl e1 rr]; rfl
  | .non :: _, _, _, e, _ => by cases e
  | .bl _ :: _, _, _, e, _ => by cases e
  | .str _ :: _, _, _, e, _ => by cases e
  | .tup _ :: _, _, _, e, _ => by cases e
  | .lst _ :: _, _, _, e, _ => by cases e
  | .dct _ _ :: _, _, _, e, _ => by cases e
  | .wdc _ _ :: _, _, _, e, _ => by cases e
  | .ref _ :: _, _, _, e, _ => by cases e
theorem maxL_max : ∀ {ns : List Int} {m : Int}, m ∈ ns → (∀ y ∈ ns, y ≤ m) → maxL ns = m
  | [], m, h, _ => by simp at h
  | [x], m, h, _ => by simp at h; simp [maxL, h]
  | x :: y :: r, m, h, hm => by
    simp only [maxL]
    have hx := hm x List.mem_cons_self
    have up : ∀ {ns : List Int}, ns ≠ [] → maxL ns ∈ ns := fun {ns} => by
      induction ns with
      | nil => intro q; exact absurd rfl q
      | cons a t ih =>
        intro _
        cases t with
        | nil => simp [maxL]
        | cons b t =>
          simp only [maxL]
          split
          · exact List.mem_cons_of_mem _ (ih (by simp))
          · exact List.mem_cons_self
    have h2 : maxL (y :: r) ≤ m := hm _ (List.mem_cons_of_mem _ (up (by simp)))
    rcases List.mem_cons.mp h with e | h
    · subst e
      rw [if_neg (by omega)]
    · have := maxL_max (ns := y :: r) h fun z q => hm z (List.mem_cons_of_mem _ q)
      rw [this]
      split
      · rfl
      · omega
theorem blt_max (G : Gx X) : CallR X (.builtin "max") (rB X.K X.w .max) := by
  intro pins s σ H xs us Q I r ⟨ds, d, j, m, rl, wd, e, q⟩
  unfold bltD at e
  split at e <;> first | (rename_i h; cases h) | skip
  all_goals try cases e
  split at e
  · rename_i ns e1
    split at e
    · cases e
    · rename_i h0
      cases e
      obtain ⟨v, rfl, rv⟩ := rl.one
      simp only [Rep] at rv
      obtain ⟨a, vs, rfl, _, hq, rl⟩ := rv
      have := ints_repl e1 rl
      subst this
      refine cr_max G.calm pins s σ H _ us Q I r ⟨a, ns, rfl, .inl hq, ?_, fun k hk hy => q _ H same_refl ?_⟩
      · cases ns with
        | nil => simp at h0
        | cons _ _ => simp
      · simp only [Rep]
        rw [maxL_max hk hy]
  · cases e
end
end Mp
end
section -- MpZ
set_option Elab.async false
set_option linter.all false
set_option maxRecDepth 100000
set_option maxHeartbeats 4000000
/-! Mp, part Z: sorted(dict), dict(known tuple), (a, *x), {k: v}. -/
namespace Mp
open PySem L2 PyProof.Rows
def leS (a b : Str) : Prop := ¬ b.cps.toList < a.cps.toList
theorem leS_trans {a b c : Str} (h : leS a b) (k : leS b c) : leS a c := by
  unfold leS at *
  rw [List.not_lt] at *
  exact List.le_trans h k
theorem leS_total (a b : Str) : leS a b ∨ leS b a := by
  unfold leS
  rw [List.not_lt, List.not_lt]
  exact List.le_total _ _
theorem leS_anti {a b : Str} (h : leS a b) (k : leS b a) : a = b := by
  unfold leS at *
  rw [List.not_lt] at *
  have := List.le_antisymm h k
  cases a; cases b
  simpa [Array.toList_inj] using this
theorem insS_mem {x y : Str} : ∀ {xs : List Str}, y ∈ insS x xs → y = x ∨ y ∈ xs
  | [], h => .inl (by simpa [insS] using h)
  | z :: xs, h => by
    unfold insS at h
    split at h
    · rcases List.mem_cons.mp h with rfl | h
      · exact .inr List.mem_cons_self
      · rcases insS_mem h with h | h
        · exact .inl h
        · exact .inr (List.mem_cons_of_mem _ h)
    · rcases List.mem_cons.mp h with rfl | h
      · exact .inl rfl
      · exact .inr h
theorem insS_perm (x : Str) : ∀ xs : List Str, (insS x xs).Perm (x :: xs)
  | [] => .refl _
  | z :: xs => by
    unfold insS
    split
    · exact ((insS_perm x xs).cons z).trans (.swap _ _ _)
    · exact .refl _
theorem sortS_perm : ∀ xs : List Str, (sortS xs).Perm xs
  | [] => .refl _
  | x :: xs => (insS_perm x (sortS xs)).trans ((sortS_perm xs).cons x)
theorem insS_pw (x : Str) : ∀ {xs : List Str}, xs.Pairwise leS → (insS x xs).Pairwise leS
  | [], _ => by simp [insS]
  | z :: xs, h => by
    unfold insS
    obtain ⟨h1, h2⟩ := List.pairwise_cons.mp h
    split
    · rename_i hz
      have hz : z.cps.toList < x.cps.toList := of_decide_eq_true hz
      refine List.pairwise_cons.mpr ⟨fun y hy => ?_, insS_pw x h2⟩
      rcases insS_mem hy with rfl | hy
      · rcases leS_total z y with q | q
        · exact q
        · exact absurd hz q
      · exact h1 y hy
    · rename_i hz
      have hz : leS x z := fun q => hz (decide_eq_true q)
      refine List.pairwise_cons.mpr ⟨fun y hy => ?_, h⟩
      rcases List.mem_cons.mp hy with rfl | hy
      · exact hz
      · exact leS_trans hz (h1 y hy)
theorem sortS_pw : ∀ xs : List Str, (sortS xs).Pairwise leS
  | [] => .nil
  | x :: xs => insS_pw x (sortS_pw xs)
theorem rising_pw : ∀ {xs : List Str} {p : Str}, risingS p xs = true → (p :: xs).Pairwise leS
  | [], p, _ => by simp
  | x :: xs, p, h => by
    simp only [risingS, Bool.and_eq_true, Bool.not_eq_true'] at h
    have h2 := rising_pw (xs := xs) (p := x) h.2
    have hp : leS p x := fun q => by rw [ltCps_eq, decide_eq_false_iff_not] at h; exact h.1 q
    refine List.pairwise_cons.mpr ⟨fun y hy => ?_, h2⟩
    rcases List.mem_cons.mp hy with rfl | hy
    · exact hp
    · exact leS_trans hp ((List.pairwise_cons.mp h2).1 y hy)
theorem sort_unique {xs ys : List Str} (hp : ys.Perm xs) (hs : sortedS ys = true) : ys = sortS xs := by
  refine List.Perm.eq_of_pairwise (le := leS) (fun a b _ _ h k => leS_anti h k) ?_ (sortS_pw xs) (hp.trans (sortS_perm xs).symm)
  cases ys with
  | nil => exact .nil
  | cons y ys => exact rising_pw hs
theorem keysS_inr : ∀ {ks : List Key} {xs : List Str}, keysS ks = some xs → ks = xs.map Sum.inr
  | [], xs, e => by simp only [keysS] at e; cases e; rfl
  | .inr x :: r, xs, e => by
    simp only [keysS] at e
    obtain ⟨y, e1, rfl⟩ := Option.map_eq_some_iff.mp e
    rw [keysS_inr e1]; rfl
  | .inl _ :: _, _, e => by simp [keysS] at e
theorem strs_rep {K : PySem.W.Frag} {w : World} {H : Hp} {j : J} : ∀ xs : List Str, RepL K w H j (xs.map D.str) (xs.map V.str)
  | [] => .nil
  | x :: xs => RepL.cons (by simp only [Rep]) (strs_rep xs)
theorem strs_repl {K : PySem.W.Frag} {w : World} {H : Hp} {j : J} : ∀ {xs : List D} {bs : List Str} {vs : List V}, strsOf xs = some bs → RepL K w H j xs vs → vs = bs.map V.str
  | [], bs, vs, e, rl => by simp only [strsOf] at e; cases e; simp only [RepL] at rl; exact rl
  | .str b :: xs, bs, vs, e, rl => by
    simp only [strsOf] at e
    obtain ⟨r, e1, rfl⟩ := Option.map_eq_some_iff.mp e
    simp only [RepL] at rl
    obtain ⟨v, vr, rfl, rv, rr⟩ := rl
    simp only [Rep] at rv
    rw [rv, strs_repl e1 rr]; rfl
  | .non :: _, _, _, e, _ => by cases e
  | .bl _ :: _, _, _, e, _ => by cases e
  | .int _ :: _, _, _, e, _ => by cases e
  | .tup _ :: _, _, _, e, _ => by cases e
  | .lst _ :: _, _, _, e, _ => by cases e
  | .dct _ _ :: _, _, _, e, _ => by cases e
  | .wdc _ _ :: _, _, _, e, _ => by cases e
  | .ref _ :: _, _, _, e, _ => by cases e
section
variable {X : Cx} {cA : Nat → Addr} {W : XK} {pos : Pos} {cl : Nat → List D → M D} {C : List D}
theorem blt_sorted (G : Gx X) : CallR X (.builtin "sorted") (rB X.K X.w .sorted) := by
  intro pins s σ H xs us Q I r ⟨ds, d, j, m, rl, wd, e, q⟩
  unfold bltD at e
  split at e <;> first | (rename_i h; cases h) | skip
  all_goals try cases e
  split at e
  · rename_i ns e1
    split at e
    · rename_i h0
      cases e
      obtain ⟨v, rfl, rv⟩ := rl.one
      simp only [Rep] at rv
      obtain ⟨a, vs, rfl, _, hq, hl, rl⟩ := rv
      have ek := keysS_inr e1
      refine call_sortedD G.calm pins s σ H _ us Q I r ⟨a, _, ns, rfl, .inl hq, by rw [zip_fst hl]; exact ek, by rw [ek, List.length_map] at h0; exact h0, fun ys p hp hs hn => ?_⟩
      rw [sort_unique hp hs]
      exact q _ _ (Same.new hn) (rep_lst wd hn (strs_rep _))
    · cases e
  · cases e
  · obtain ⟨v, rfl, rv⟩ := rl.one
    simp only [Rep] at rv
    obtain ⟨a, rfl, ha⟩ := rv
    split at e
    · rename_i ks es hm
      split at e
      · rename_i ns e1
        split at e
        · rename_i h0
          cases e
          obtain ⟨o, vs, hf, hl, _⟩ := wd.at_ _ _ _ ha hm
          have ek := keysS_inr e1
          refine call_sortedD G.calm pins s σ H _ us Q I r ⟨a, _, ns, rfl, .inr ⟨o, hf⟩, by rw [zip_fst hl]; exact ek, by rw [ek, List.length_map] at h0; exact h0, fun ys p hp hs hn => ?_⟩
          rw [sort_unique hp hs]
          exact q _ _ (Same.new hn) (rep_lst wd hn (strs_rep _))
        · cases e
      · cases e
    · rename_i ys hm
      split at e
      · rename_i ns e1
        split at e
        · rename_i h0
          cases e
          obtain ⟨vs, hf, rlx⟩ := wd.at_ _ _ _ ha hm
          have := strs_repl e1 rlx
          subst this
          refine cr_sortedS pins s σ H _ us Q I r ⟨a, ns, rfl, .inl (.inl hf), h0, fun ys p hp hs hn => ?_⟩
          rw [sort_unique hp hs]
          exact q _ _ (Same.new hn) (rep_lst wd hn (strs_rep _))
        · cases e
      · cases e
    · cases e
theorem s_tst2 {e x : Expr} {e' x' : E} {p : Pos} {k : Nat} (h1 : PE X e (tE cA X.K X.w W (ev cl C e'))) (h2 : PE X x (tE cA X.K X.w W (ev cl C x')))
    (hs : starEach [e, .Starred x p] X.env = (false, eval e X.env) :: starEach [.Starred x p] X.env := by rfl) (hs2 : starEach [.Starred x p] X.env = (true, eval x X.env) :: starEach [] X.env := by rfl) : PE X (.Tuple [e, .Starred x p] k pos) (tE cA X.K X.w W (ev cl C (.tst (.c e' (.c x' .n)) [false, true]))) :=
  (pe_tup (pa_cons h1 (StX.pa_star h2 pa_nil hs2) hs)).imp fun σ H Q ⟨r, m, j, rs, wd, h⟩ => by
    simp only [ev] at h
    replace h := Pst.bnd h
    simp only [evs] at h
    refine ⟨r, m, j, rs, wd, (Pst.bnd h).mono fun d m1 H1 j1 e1 wd1 h1 v rv => ?_⟩
    refine ⟨r, m1, j1, rs.ext e1, wd1, (Pst.bnd (Pst.bnd h1)).mono fun f m2 H2 j2 e2 wd2 h2 u ru => ?_⟩
    replace h2 := Pst.ret (Pst.ret h2 wd2) wd2
    obtain ⟨t, e, h2⟩ := h2.opt
    have fin : ∀ {zs : List D} {a : Addr} {us : List V}, u = .ref a → (SqT X.K H2 a us ∨ SqL X.K H2 a us) → RepL X.K X.w H2 j2 zs us → ((splice [false, true] [d, f]).bind fun xs => if xs.length ≤ sizeLine then some (D.tup xs) else none) = (if (d :: zs).length ≤ sizeLine then some (D.tup (d :: zs)) else none) →
        ∃ p xs, u = V.ref p ∧ (SqT X.K H2 p xs ∨ SqL X.K H2 p xs) ∧ tNil σ H2 fun ys H2 => (v :: (xs ++ ys)).length ≤ sizeLine ∧ ∀ q, H2 q = none → Q (.ref q) (upd H2 q (.tup (v :: (xs ++ ys)))) := fun {zs a us} eu hq rl ez => by
      rw [ez] at e
      split at e
      · rename_i hz
        cases e
        have rl2 := RepL.cons (rv.ext e2) rl
        refine ⟨a, us, eu, hq, ?_⟩
        show (v :: (us ++ [])).length ≤ sizeLine ∧ _
        rw [List.append_nil]
        refine ⟨by rw [← rl2.length]; exact hz, fun p hp => ?_⟩
        exact h2 _ _ (Ext.new1 hp) (wd2.same (Same.new hp)) _ (rep_tup wd2 hp rl2)
      · cases e
    cases f with
    | tup zs =>
      simp only [Rep] at ru
      obtain ⟨a, us, rfl, hq, rl⟩ := ru
      exact fin rfl (.inl (tup_sq hq)) rl (by simp [splice])
    | lst zs =>
      simp only [Rep] at ru
      obtain ⟨a, us, rfl, hj, hq, rl⟩ := ru
      exact fin rfl (.inr (.inl hq)) rl (by simp [splice])
    | _ => cases e
end
end Mp
end
section -- MpZ2
set_option Elab.async false
set_option linter.all false
set_option maxRecDepth 100000
set_option maxHeartbeats 4000000
/-! Mp, part Z2: {k: v}, dict(known tuple). -/
namespace Mp
open PySem L2 PyProof.Rows
section
variable {X : Cx} {cA : Nat → Addr} {W : XK} {pos : Pos} {cl : Nat → List D → M D} {C : List D}
theorem s_dsp1 {ek e : Expr} {k' v' : E} (h1 : PE X ek (tE cA X.K X.w W (ev cl C k'))) (h2 : PE X e (tE cA X.K X.w W (ev cl C v'))) : PE X (.Dict [some ek] [e] pos) (tE cA X.K X.w W (ev cl C (.dsp (.c k' .n) (.c v' .n)))) := by
  refine ⟨fun pins s σ H Q I ⟨r, m, j, rs, wd, h⟩ => ?_⟩
  simp only [ev, evs] at h
  refine wpAny_Dict_pairs (knd := mixKind X.prog X.w) (pairs := [(eval ek X.env, do let x ← eval e X.env; standAt pos; pure x)]) rfl (by simp) (by simp) ?_
  generalize hd : s.heap.objs.size = d
  generalize ho : ({ cls := .type "dict", data := .dict #[] } : Obj) = o
  have hL : d ≠ X.env.locals := Nat.ne_of_gt (hd ▸ I.lt)
  have hz0 : X.s_0.heap.objs.size ≤ d := hd ▸ I.sz
  have hcl : ∀ x c, X.env.cells.lookup x = some c → c ≠ d := fun x c e z => by
    obtain ⟨v, q, hq, _⟩ := I.cell x c e
    exact Nat.ne_of_lt (hd ▸ Heap.lt_size hq) z
  have hpn : ∀ p ∈ X.pn ++ pins, p.1 ≠ d := fun p hp z => by
    exact Nat.ne_of_lt (hd ▸ Heap.lt_size (I.pin p hp).1) z
  have hsys : (d == sysModules) = false := beq_eq_false_iff_ne.mpr (Nat.ne_of_gt (hd ▸ I.big))
  have I1 : Inv X pins σ H { s with heap := s.heap.push o } := I.kept (t' := s.toks) fun b u e => Heap.get?_push_of_some _ e
  have pinI : ∀ (p : Addr × Obj), p ∈ (d, o) :: pins → ({ s with heap := s.heap.push o } : Shared).heap.get? p.1 = some p.2 ∧ H p.1 = none ∧ p.1 ≠ X.env.locals ∧ p.1 ∉ X.fs ∧ ∀ v, p.2.data ≠ .cell v := fun p hp => by
    rcases List.mem_cons.mp hp with rfl | hp
    · refine ⟨?_, I.hok.fresh (Nat.le_of_eq hd), hL, I.nofs (Nat.le_of_eq hd), fun v e => by rw [← ho] at e; cases e⟩
      rw [← hd]
      exact Heap.get?_push_size _ (by rw [← ho]; rfl)
    · exact I1.pin p (List.mem_append_right _ hp)
  have I2 := I1.pins_of pinI
  have d0 : ({ s with heap := s.heap.push o } : Shared).heap.DictOf (mixKind X.prog X.w) d [] := by
    rw [← ho, ← hd]
    exact Heap.DictOf.new s.heap
  refine evalPairs_cons (wpAny_mono (h1.run ((d, o) :: pins) _ σ H (fun v H1 => ∃ x m1 j1, Rep X.K X.w H1 j1 x v ∧ RS X.K X.w H1 j1 σ r ∧ Wd X.K X.w H1 j1 m1 ∧ Pst cA X.K X.w W H1 j1 (fun d _ H' j' => ∀ v, Rep X.K X.w H' j' d v → Q v H') ((((ev cl C v' r).bnd fun d => (M.ret []).bnd fun ds => M.ret (d :: ds)).bnd fun vd => M.opt ((pairsD [x] vd).map fun p => .dct (putAllK [] [] p.1 p.2).1 (putAllK [] [] p.1 p.2).2)) m1)) I2
    ⟨r, m, j, rs, wd, (Pst.bnd (Pst.bnd h)).mono fun x m1 H1 j1 e1 wd1 g1 v rv => ⟨x, m1, j1, rv, rs.ext e1, wd1, Pst.ret (Pst.ret (Pst.bnd g1) wd1) wd1⟩⟩) (fun u s2 hu => ?_) fun _ _ e => e)
  obtain ⟨v, H1, I3, ru, x, m1, j1, rv, rs1, wd1, g1⟩ := hu
  refine wpAny_bind (wpAny_mono (h2.run ((d, o) :: pins) _ σ H1 (fun v2 H2 => ∃ y m2 j2, Rep X.K X.w H2 j2 y v2 ∧ Wd X.K X.w H2 j2 m2 ∧ Pst cA X.K X.w W H2 j2 (fun d _ H' j' => ∀ v, Rep X.K X.w H' j' d v → Q v H') (M.opt ((pairsD [x] [y]).map fun p => .dct (putAllK [] [] p.1 p.2).1 (putAllK [] [] p.1 p.2).2) m2)) I3
    ⟨r, m1, j1, rs1, wd1, (Pst.bnd (Pst.bnd g1)).mono fun y m2 H2 j2 e2 wd2 g2 v rv => ⟨y, m2, j2, rv, wd2, Pst.ret (Pst.ret (Pst.bnd g2) wd2) wd2⟩⟩) (fun u2 s3 hu => ?_) fun _ _ e => e)
  obtain ⟨v2, H2, I4, ru2, y, m2, j2, rv2, wd2, g2⟩ := hu
  refine wpAny_bind (wpAny_standAt (wpAny_pure (evalPairs_nil ?_)))
  cases hk : dKey x with
  | none => simp only [pairsD, hk] at g2; exact g2.elim
  | some q =>
    simp only [pairsD, hk, Option.map_some, putAllK, Mp.putK] at g2
    have ek := dKey_rep hk rv
    subst ek
    have pd := I4.pin (d, o) (List.mem_append_right _ List.mem_cons_self)
    have d4 : s3.heap.DictOf (mixKind X.prog X.w) d [] := by
      obtain ⟨o1, es, ep, k1, k2, k3, k4, k5, k6⟩ := d0
      have : o1 = o := by
        have := (pinI (d, o) List.mem_cons_self).1
        rw [k1] at this; exact Option.some.inj this
      subst this
      exact ⟨o1, es, ep, pd.1, k2, k3, k4, k5, k6⟩
    refine ⟨[(q, u2)], ⟨kV_is ru, rfl, trivial⟩, d4, fun h' dd' sb => ?_⟩
    have I0 : Inv X pins σ H2 s3 := I4.pins_of fun p hp => I4.pin p (List.mem_append_right _ (List.mem_cons_of_mem _ hp))
    have It : Inv X pins σ H2 { s3 with heap := h', toks := s3.toks + 1 } := I0.turned (it := d) (fun b z hb e => (sb.2 b hb).trans e) pd.2.1 hL (.inr hz0) hcl hpn
    have rel : KV [(q, v2)] [(q, u2)] := .cons ⟨rfl, ru2⟩ .nil
    have I5 := adopt It pd.2.1 hz0 hL hcl hpn (dk_new (kvs := [(q, v2)]) (by show 1 ≤ sizeLine; decide) hsys rel dd')
    refine ⟨.ref d, _, I5, rfl, g2 _ j2 (Ext.new1 pd.2.1) (wd2.same (Same.new pd.2.1)) _ ?_⟩
    simp only [Rep]
    refine ⟨d, [v2], rfl, fun z => ?_, upd_same, rfl, RepL.ext (Ext.new1 pd.2.1) _ _ (RepL.cons rv2 .nil)⟩
    obtain ⟨o', q'⟩ := wd2.there' z
    rw [pd.2.1] at q'; cases q'
end
end Mp
end
section -- MpZ3
set_option Elab.async false
set_option linter.all false
set_option maxRecDepth 100000
set_option maxHeartbeats 4000000
/-! Mp, part Z3: dict(known tuple of pairs). -/
namespace Mp
open PySem L2 PyProof.Rows
theorem pick_list {α β : Type} {R : Nat → α → β → Prop} : ∀ (l : List α), (∀ j a, l[j]? = some a → ∃ b, R j a b) → ∃ l' : List β, l'.length = l.length ∧ ∀ j a, l[j]? = some a → ∃ b, l'[j]? = some b ∧ R j a b
  | [], _ => ⟨[], rfl, fun j a e => by simp at e⟩
  | x :: l, h => by
    obtain ⟨b, hb⟩ := h 0 x rfl
    obtain ⟨l', hl, h'⟩ := pick_list (R := fun j => R (j + 1)) l fun j a e => h (j + 1) a (by simpa using e)
    refine ⟨b :: l', by simp [hl], fun j a e => ?_⟩
    cases j with
    | zero =>
      have : x = a := Option.some.inj e
      subst this
      exact ⟨b, rfl, hb⟩
    | succ j =>
      obtain ⟨c, h1, h2⟩ := h' j a (by simpa using e)
      exact ⟨c, by simpa using h1, h2⟩
theorem dkey_rep {K : PySem.W.Frag} {w : World} {H : Hp} {j : J} {x : D} {k : Key} {v : V} (e : dKey x = some k) (h : Rep K w H j x v) : v = kV k := by
  cases x <;> simp only [dKey] at e <;> first | (cases e; simp only [Rep] at h; exact h) | cases e
theorem pairsK_rep {K : PySem.W.Frag} {w : World} {H : Hp} {j : J} : ∀ {xs : List D} {ks : List Key} {ds : List D} {vs : List V}, pairsK xs = some (ks, ds) → RepL K w H j xs vs →
    ∃ (ps : List Addr) (ws : List V), vs = ps.map V.ref ∧ ks.length = ws.length ∧ ps.length = ks.length ∧ RepL K w H j ds ws ∧ Paired (fun p (kv : Key × V) => SqT K H p [kV kv.1, kv.2]) ps (ks.zip ws)
  | [], ks, ds, vs, e, rl => by
    simp only [pairsK] at e; cases e
    simp only [RepL] at rl; subst rl
    exact ⟨[], [], rfl, rfl, rfl, .nil, .nil⟩
  | x :: xs, ks, ds, vs, e, rl => by
    simp only [RepL] at rl
    obtain ⟨v, r, rfl, rv, rr⟩ := rl
    unfold pairsK at e
    split at e
    · rename_i heq; cases heq
    · rename_i k d xs' heq
      cases heq
      split at e
      · rename_i q ks' ds' e1 e2
        cases e
        obtain ⟨ps, ws, h1, h2, h3, h4, h5⟩ := pairsK_rep e2 rr
        simp only [Rep] at rv
        obtain ⟨a, us, rfl, hq, ru⟩ := rv
        obtain ⟨u1, u2, rfl, r1, r2⟩ := ru.two
        have ek := dkey_rep e1 r1
        subst ek
        exact ⟨a :: ps, u2 :: ws, by rw [h1]; rfl, by simp [h2], by simp [h3], RepL.cons r2 h4, .cons (tup_sq hq) h5⟩
      · cases e
    · cases e
section
variable {X : Cx}
theorem blt_dict (G : Gx X) : CallR X (.type "dict") (rB X.K X.w .dict) := by
  intro pins s σ H xs us Q I r ⟨ds, d, j, m, rl, wd, e, q⟩
  unfold bltD at e
  split at e <;> first | (rename_i h; cases h) | skip
  all_goals try cases e
  rename_i n
  split at e
  · rename_i xs hm
    split at e
    · rename_i ks es e1
      cases e
      obtain ⟨v, rfl, rv⟩ := rl.one
      simp only [Rep] at rv
      obtain ⟨a, rfl, ha⟩ := rv
      obtain ⟨o, vs, hf, hdn, rlx⟩ := wd.at_ _ _ _ ha hm
      obtain ⟨ps, ws, rfl, hl, hl3, rw', hp⟩ := pairsK_rep e1 rlx
      obtain ⟨u, rfl, ru⟩ := vals1 r
      cases (show u = Value.ref a from ru)
      obtain ⟨ho, hz, its, rits, hT⟩ := I.hok a _ hf
      have hits := refs_at rits
      subst hits
      obtain ⟨prs, rel, hlen, hpr⟩ := pairs_of I hp
      obtain ⟨ps', hl', hps'⟩ := pick_list (R := fun j (q : Key × Value) (kv : Value × Value) => ∃ b, ps[j]? = some b ∧ IsTup s.heap b #[kv.1, kv.2] ∧ keyIs q.1 kv.1 = true ∧ kv.2 = q.2) prs fun j q e => by
        obtain ⟨b, u, e1, e2, e3⟩ := hpr j q e
        exact ⟨(u, q.2), b, e1, e2, e3, rfl⟩
      obtain ⟨o', ho', hc', n', hd'⟩ := (show s.heap.IsTuple a (ps.map Value.ref).toArray from hT)
      rw [ho] at ho'
      cases ho'
      have back : ∀ (i : Nat) (kv : Value × Value), ps'[i]? = some kv → ∃ q, prs[i]? = some q ∧ ∃ b, ps[i]? = some b ∧ IsTup s.heap b #[kv.1, kv.2] ∧ keyIs q.1 kv.1 = true ∧ kv.2 = q.2 := fun i kv e => by
        have hi : i < prs.length := by rw [← hl']; exact (List.getElem?_eq_some_iff.mp e).1
        obtain ⟨kv', e1, e2⟩ := hps' i prs[i] (List.getElem?_eq_getElem hi)
        rw [e] at e1; cases e1
        exact ⟨prs[i], List.getElem?_eq_getElem hi, e2⟩
      have hn : ps'.length ≤ sizeLine := by
        rw [hl', hlen]
        simpa using hz
      refine PySem.call_dict_pairs (knd := mixKind X.prog X.w) (kvs := prs) (PairArg.tuple a (ps.map Value.ref).toArray (fun j => ps[j]?.getD 0) ps') (I.ok.hd G.calm) ⟨⟨o, n', ho, hc', hdn, hd'⟩, by simp [hl', hlen], fun i k v e => ?_⟩ ⟨hl'.symm, fun i k v e => ?_⟩ hn fun h' tk dd keep => ?_
      · obtain ⟨q, e1, b, e2, e3, _⟩ := back i (k, v) e
        exact ⟨by simp [e2], .inl (by show s.heap.IsTuple (ps[i]?.getD 0) _; rw [e2]; exact e3)⟩
      · obtain ⟨q, e1, b, e2, e3, e4, e5⟩ := back i (k, v) e
        have e5 : v = q.2 := e5
        exact ⟨q.1, by rw [e1, e5], e4⟩
      · have hsys : (s.heap.objs.size == sysModules) = false := beq_eq_false_iff_ne.mpr (Nat.ne_of_gt I.big)
        have hlm : (mergeK [] (ks.zip ws)).length ≤ sizeLine := by
          refine Nat.le_trans (length_mergeK (ks.zip ws) []) ?_
          rw [List.length_nil, Nat.zero_add, rel.length, ← hl']
          exact hn
        obtain ⟨zs, g1, g2, g3, g4⟩ := merge_zip (ks := []) (ds := []) (vs := []) hl rw' .nil rfl .nil
        have hp0 : H s.heap.objs.size = none := I.hok.fresh (Nat.le_refl _)
        refine ⟨.ref s.heap.objs.size, upd H s.heap.objs.size (.dK (mergeK [] (ks.zip ws))), I.laid (t' := tk) (fun b o e => keep b o (by simp) e) (Nat.le_refl _) (dk_new hlm hsys (KV.merge rel .nil) dd), rfl, q _ _ (Same.new hp0) ?_⟩
        simp only [Rep]
        refine ⟨s.heap.objs.size, zs, rfl, fun z => ?_, ?_, g2, RepL.ext (Ext.new1 hp0) _ _ g3⟩
        · obtain ⟨o', q'⟩ := wd.there' z
          rw [hp0] at q'; cases q'
        · rw [upd_same]
          exact congrArg (fun z => some (HO.dK z)) g1
    · cases e
  · cases e
end
end Mp
end
section -- MpY2
set_option Elab.async false
set_option linter.all false
set_option maxRecDepth 100000
set_option maxHeartbeats 4000000
/-! Mp, part Y2: dicts that are changed: displays into the store, locking, update, get; sum. -/
namespace Mp
open PySem L2 PyProof.Rows
section
variable {X : Cx} {cA : Nat → Addr} {W : XK} {pos : Pos} {cl : Nat → List D → M D} {C : List D}
/-- a new dict in the store -/
theorem push_dct {K : PySem.W.Frag} {w : World} {H : Hp} {j : J} {m : Sto} {p : Addr} {ks : List Key} {vs : List V} {ds : List D} (wd : Wd K w H j m) (hp : H p = none) (hl : ks.length = vs.length) (rl : RepL K w H j ds vs) (hn : ks.Nodup) :
    Ext H j (upd H p (.dK (ks.zip vs))) (j.add p) ∧ Wd K w (upd H p (.dK (ks.zip vs))) (j.add p) (m ++ [.dct ks ds]) ∧ Rep K w (upd H p (.dK (ks.zip vs))) (j.add p) (.ref m.length) (.ref p) := by
  obtain ⟨e2, wd2⟩ := wd.push (o := .dK (ks.zip vs)) (c := .dct ks ds) hp ⟨vs, upd_same, hl, RepL.ext (Ext.add hp) _ _ rl, hn⟩
  refine ⟨e2, wd2, ?_⟩
  simp only [Rep]
  refine ⟨_, rfl, ?_⟩
  show (j.ix ++ [_])[m.length]? = _
  rw [← wd.len, List.getElem?_append_right (Nat.le_refl _)]
  simp
/-- a display of constants that will be changed -/
theorem s_dsm {keys : List (Option Expr)} {values : List Expr} {kvs : List (Key × V)} {ks : List Key} {vs : List V} {ds : List D} (h : PPs X pos keys values ((kvs.map fun kv => (kV kv.1, kv.2)).map fun p => (tC p.1, tC p.2))) (hall : keys.all (·.isSome) = true := by rfl) (hl : keys.length = values.length := by rfl) (h0 : keys ≠ [] := by simp)
    (h15 : keys.length ≤ 15 := by decide) (hz : kvs.length ≤ 15 := by decide) (hm : mergeK [] kvs = ks.zip vs := by rfl) (hlen : ks.length = vs.length := by rfl) (hn : ks.Nodup := by decide) (hr : ∀ H j, RepL X.K X.w H j ds vs) : PE X (.Dict keys values pos) (tE cA X.K X.w W (ev cl C (.dsm ks ds))) :=
  (pe_disp h hall hl h0 h15).imp fun σ H Q ⟨r, m, j, rs, wd, h⟩ => by
    simp only [ev] at h
    refine fun p hp => tPairs_c ⟨upd_same, kvs, rfl, hz, ?_⟩
    rw [upd_upd, hm]
    obtain ⟨e2, wd2, rv⟩ := push_dct (ks := ks) wd hp hlen (hr _ _) hn
    exact h _ _ e2 wd2 _ rv
theorem s_dsm0 : PE X (.Dict [] [] pos) (tE cA X.K X.w W (ev cl C (.dsm [] []))) :=
  pe_dnewK.imp fun σ H Q ⟨r, m, j, rs, wd, h⟩ => by
    simp only [ev] at h
    refine fun p hp => ?_
    obtain ⟨e2, wd2, rv⟩ := push_dct (ks := []) (vs := []) (ds := []) wd hp rfl .nil .nil
    exact h _ _ e2 wd2 _ rv
/-- {k: v} that will be changed -/
theorem s_dspc {ek e : Expr} {k' v' : E} (h1 : PE X ek (tE cA X.K X.w W (ev cl C k'))) (h2 : PE X e (tE cA X.K X.w W (ev cl C v'))) : PE X (.Dict [some ek] [e] pos) (tE cA X.K X.w W (ev cl C (.dspc k' v'))) := by
  refine ⟨fun pins s σ H Q I ⟨r, m, j, rs, wd, h⟩ => ?_⟩
  simp only [ev] at h
  refine wpAny_Dict_pairs (knd := mixKind X.prog X.w) (pairs := [(eval ek X.env, do let x ← eval e X.env; standAt pos; pure x)]) rfl (by simp) (by simp) ?_
  generalize hd : s.heap.objs.size = d
  generalize ho : ({ cls := .type "dict", data := .dict #[] } : Obj) = o
  have hL : d ≠ X.env.locals := Nat.ne_of_gt (hd ▸ I.lt)
  have hz0 : X.s_0.heap.objs.size ≤ d := hd ▸ I.sz
  have hcl : ∀ x c, X.env.cells.lookup x = some c → c ≠ d := fun x c e z => by
    obtain ⟨v, q, hq, _⟩ := I.cell x c e
    exact Nat.ne_of_lt (hd ▸ Heap.lt_size hq) z
  have hpn : ∀ p ∈ X.pn ++ pins, p.1 ≠ d := fun p hp z => by
    exact Nat.ne_of_lt (hd ▸ Heap.lt_size (I.pin p hp).1) z
  have hsys : (d == sysModules) = false := beq_eq_false_iff_ne.mpr (Nat.ne_of_gt (hd ▸ I.big))
  have I1 : Inv X pins σ H { s with heap := s.heap.push o } := I.kept (t' := s.toks) fun b u e => Heap.get?_push_of_some _ e
  have pinI : ∀ (p : Addr × Obj), p ∈ (d, o) :: pins → ({ s with heap := s.heap.push o } : Shared).heap.get? p.1 = some p.2 ∧ H p.1 = none ∧ p.1 ≠ X.env.locals ∧ p.1 ∉ X.fs ∧ ∀ v, p.2.data ≠ .cell v := fun p hp => by
    rcases List.mem_cons.mp hp with rfl | hp
    · refine ⟨?_, I.hok.fresh (Nat.le_of_eq hd), hL, I.nofs (Nat.le_of_eq hd), fun v e => by rw [← ho] at e; cases e⟩
      rw [← hd]
      exact Heap.get?_push_size _ (by rw [← ho]; rfl)
    · exact I1.pin p (List.mem_append_right _ hp)
  have I2 := I1.pins_of pinI
  have d0 : ({ s with heap := s.heap.push o } : Shared).heap.DictOf (mixKind X.prog X.w) d [] := by
    rw [← ho, ← hd]
    exact Heap.DictOf.new s.heap
  refine evalPairs_cons (wpAny_mono (h1.run ((d, o) :: pins) _ σ H (fun v H1 => ∃ x m1 j1, Rep X.K X.w H1 j1 x v ∧ RS X.K X.w H1 j1 σ r ∧ Wd X.K X.w H1 j1 m1 ∧ Pst cA X.K X.w W H1 j1 (fun d _ H' j' => ∀ v, Rep X.K X.w H' j' d v → Q v H') (((ev cl C v' r).bnd fun y => fun m => match dKey x with
      | some q => R.ok (D.ref m.length) (m ++ [.dct [q] [y]])
      | none => .bad) m1)) I2
    ⟨r, m, j, rs, wd, (Pst.bnd h).mono fun x m1 H1 j1 e1 wd1 g1 v rv => ⟨x, m1, j1, rv, rs.ext e1, wd1, g1⟩⟩) (fun u s2 hu => ?_) fun _ _ e => e)
  obtain ⟨v, H1, I3, ru, x, m1, j1, rv, rs1, wd1, g1⟩ := hu
  refine wpAny_bind (wpAny_mono (h2.run ((d, o) :: pins) _ σ H1 (fun v2 H2 => ∃ y m2 j2, Rep X.K X.w H2 j2 y v2 ∧ Wd X.K X.w H2 j2 m2 ∧ Pst cA X.K X.w W H2 j2 (fun d _ H' j' => ∀ v, Rep X.K X.w H' j' d v → Q v H') (match dKey x with
      | some q => R.ok (D.ref m2.length) (m2 ++ [.dct [q] [y]])
      | none => .bad)) I3
    ⟨r, m1, j1, rs1, wd1, (Pst.bnd g1).mono fun y m2 H2 j2 e2 wd2 g2 v rv => ⟨y, m2, j2, rv, wd2, g2⟩⟩) (fun u2 s3 hu => ?_) fun _ _ e => e)
  obtain ⟨v2, H2, I4, ru2, y, m2, j2, rv2, wd2, g2⟩ := hu
  refine wpAny_bind (wpAny_standAt (wpAny_pure (evalPairs_nil ?_)))
  cases hk : dKey x with
  | none => simp only [hk] at g2; exact g2.elim
  | some q =>
    simp only [hk] at g2
    have ek := dKey_rep hk rv
    subst ek
    have pd := I4.pin (d, o) (List.mem_append_right _ List.mem_cons_self)
    have d4 : s3.heap.DictOf (mixKind X.prog X.w) d [] := by
      obtain ⟨o1, es, ep, k1, k2, k3, k4, k5, k6⟩ := d0
      have : o1 = o := by
        have := (pinI (d, o) List.mem_cons_self).1
        rw [k1] at this; exact Option.some.inj this
      subst this
      exact ⟨o1, es, ep, pd.1, k2, k3, k4, k5, k6⟩
    refine ⟨[(q, u2)], ⟨kV_is ru, rfl, trivial⟩, d4, fun h' dd' sb => ?_⟩
    have I0 : Inv X pins σ H2 s3 := I4.pins_of fun p hp => I4.pin p (List.mem_append_right _ (List.mem_cons_of_mem _ hp))
    have It : Inv X pins σ H2 { s3 with heap := h', toks := s3.toks + 1 } := I0.turned (it := d) (fun b z hb e => (sb.2 b hb).trans e) pd.2.1 hL (.inr hz0) hcl hpn
    have rel : KV [(q, v2)] [(q, u2)] := .cons ⟨rfl, ru2⟩ .nil
    have I5 := adopt It pd.2.1 hz0 hL hcl hpn (dk_new (kvs := [(q, v2)]) (by show 1 ≤ sizeLine; decide) hsys rel dd')
    obtain ⟨e3, wd3, rv3⟩ := push_dct (ks := [q]) (vs := [v2]) (ds := [y]) wd2 pd.2.1 rfl (RepL.cons rv2 .nil) (by simp)
    exact ⟨.ref d, _, I5, rfl, g2 _ _ e3 wd3 _ rv3⟩
/-- a dict that is changed no more -/
theorem s_lck {e : Expr} {a' : E} (he : PE X e (tE cA X.K X.w W (ev cl C a'))) : PE X e (tE cA X.K X.w W (ev cl C (.lck a'))) := by
  refine ⟨fun pins s σ H Q I ⟨r, m, j, rs, wd, h⟩ => ?_⟩
  simp only [ev] at h
  refine thn (he.run pins s σ H (fun v H1 => ∃ d m1 j1, Rep X.K X.w H1 j1 d v ∧ Wd X.K X.w H1 j1 m1 ∧ Pst cA X.K X.w W H1 j1 (fun d _ H' j' => ∀ v, Rep X.K X.w H' j' d v → Q v H') (lckM d m1)) I ⟨r, m, j, rs, wd, (Pst.bnd h).mono fun d m1 H1 j1 e1 wd1 h1 v rv => ⟨d, m1, j1, rv, wd1, h1⟩⟩) fun u s1 ⟨v, H1, I1, ru, d, m1, j1, rv, wd1, h1⟩ => ?_
  unfold lckM at h1
  split at h1
  · rename_i n
    split at h1
    · rename_i ks ds hm
      have rv' := rv
      simp only [Rep] at rv'
      obtain ⟨a, rfl, ha⟩ := rv'
      obtain ⟨vs, q1, hl, q2, nd⟩ := wd1.at_ n a _ ha hm
      obtain ⟨od, I2⟩ := I1.lock q1 trivial
      have mem := List.mem_of_getElem? ha
      obtain ⟨e3, wd3⟩ := wd1.put (o := .frz od (.dK (ks.zip vs))) (c := .fdc ks ds) q1 no_dK ha ⟨od, vs, upd_same, hl, q2.wx ⟨⟨[], by simp⟩, fun b u hb q => by rw [upd_ne (fun z => hb (by rw [z]; exact .inl mem))]; exact q, fun b hb => .inl hb, frz_upd q1 no_dK⟩⟩
      exact ⟨.ref a, _, I2, ru, h1 _ _ e3 wd3 _ (rv.ext e3)⟩
    · exact h1.elim
  · exact h1.elim
/-- d.update(e) -/
def rUpd : V → List V → Hp → VK → Prop := fun x xs H Q => ∃ (a b : Addr) (kvs more : List (Key × V)), x = .ref a ∧ xs = [.ref b] ∧ H a = some (.dK kvs) ∧ Rd H b (.dK more) ∧ a ≠ b ∧ kvs.length + more.length ≤ sizeLine ∧ Q .non (upd H a (.dK (mergeK kvs more)))
theorem mt_upd : MtR X "dict.update" rUpd := by
  intro pins s σ H x xs v us Q I rx rxs h
  obtain ⟨a, b, kvs, more, rfl, rfl, ha, hb, hne, hsz, q⟩ := h
  cases rx
  obtain ⟨u, rfl, ru⟩ := vals1 rxs
  cases ru
  obtain ⟨z, hd, vs, rel, dd⟩ := dk_of I.hok ha
  obtain ⟨z2, hd2, vs2, rel2, dd2⟩ := dk_rd I.hok hb
  refine call_meetsIn PySem.F.slot_dict_update dd.typeIs PySem.F.entry_dict_update (PySem.F.args_dict_update_2 _ _) (meets_dict_update (mixKind X.prog X.w) a b hne hd2) ⟨vs, vs2, dd, dd2, by rw [← rel.length, ← rel2.length]; exact hsz, fun h' dd' _ sb => ?_⟩
  have he : ∃ q, h'.get? a = some q := let ⟨q, _, _, hq, _⟩ := dd'; ⟨q, hq⟩
  exact ⟨.non, _, d_write (t' := s.toks) I (by rw [ha]; trivial) sb he (dk_new (Nat.le_trans (length_mergeK more kvs) hsz) hd (rel2.merge rel) dd'), rfl, q⟩
theorem s_upd {o e : Expr} {o' e' : E} {apos cpos : Pos} (ho : PE X o (tE cA X.K X.w W (ev cl C o'))) (he : PE X e (tE cA X.K X.w W (ev cl C e')))
    (hbase : attributeBase o "update" X.env (eval o X.env) = eval o X.env := by rfl)
    (hfew : ((backTo cpos (starEach [e] X.env)).all (fun x => !x.1) && (backToKw cpos (keywordEach [] X.env)).all (fun x => x.1.isSome)
      && decide (([e] : List Expr).length + ([] : List Keyword).length + (if ([] : List Keyword).isEmpty then 0 else 1) < 30)) = true := by rfl)
    (hline : (apos.endLine == cpos.line) = true := by rfl) (hs : starEach [e] X.env = (false, eval e X.env) :: starEach [] X.env := by rfl) (hpl : (backTo cpos (starEach [] X.env)).any (·.1) = false := by rfl) :
    PE X (.Call (.Attribute o "update" apos) [e] [] cpos) (tE cA X.K X.w W (ev cl C (.met .update o' (.c e' .n)))) :=
  (pe_bm PySem.F.plainAttrs_dict PySem.F.slot_dict_update PySem.F.type_dict_update mt_upd ho (pa_cons he pa_nil hs) hbase hfew hline hs hpl).imp fun σ H Q ⟨r, m, j, rs, wd, h⟩ => by
    simp only [ev, evs] at h
    refine ⟨r, m, j, rs, wd, (Pst.bnd h).mono fun d m1 H1 j1 e1 wd1 h1 v rv => ?_⟩
    obtain ⟨q1, q2⟩ := (Pst.bnd h1).rec
    have q2 := Pst.ok q2 wd1
    cases d with
    | ref n =>
      simp only [Rep] at rv
      obtain ⟨a, rfl, hj⟩ := rv
      simp only [recOk] at q1
      split at q1
      · rename_i ks xs hm
        obtain ⟨vs, q3, hl3, q4, nd⟩ := wd1.at_ n a _ hj hm
        refine ⟨.inr (.inr (.inl ⟨rfl, .inl ⟨_, q3⟩⟩)), r, m1, j1, rs.ext e1, wd1, (Pst.bnd (Pst.bnd q2)).mono fun x m2 H2 j2 e2 wd2 h2 u ru => ?_⟩
        have h3 := Pst.ok h2 wd2
        clear h2
        have hj2 := e2.ix hj
        unfold metM updD at h3
        simp only at h3
        split at h3
        · rename_i n' qs ws en ex
          cases en
          cases ex
          split at h3
          · rename_i ks' xs' hm'
            split at h3
            · rename_i hsz
              obtain ⟨us, p1, pl, p2, pn⟩ := wd2.at_ n a _ hj2 hm'
              simp only [Rep] at ru
              obtain ⟨b, zs, rfl, hb, hb2, hbl, rb⟩ := ru
              obtain ⟨ys, g1, g2, g3, g4⟩ := merge_zip (qs := qs) (es := ws) (us := zs) hbl rb pn pl p2
              have mem := List.mem_of_getElem? hj2
              refine ⟨a, b, _, _, rfl, rfl, p1, .inl hb2, fun z => hb (by rw [← z]; exact .inl mem), by simpa [← pl, ← hbl] using hsz, ?_⟩
              obtain ⟨e3, wd3⟩ := wd2.put (o := .dK (mergeK (ks'.zip us) (qs.zip zs))) (c := .dct (putAllK ks' xs' qs ws).1 (putAllK ks' xs' qs ws).2) p1 no_dK hj2 ⟨ys, by rw [upd_same, g1], g2, g3.wx ⟨⟨[], by simp⟩, fun b o hb q => by rw [upd_ne (fun z => hb (by rw [z]; exact .inl mem))]; exact q, fun b hb => .inl hb, frz_upd p1 no_dK⟩, g4⟩
              exact h3 _ _ e3 wd3 _ (by simp only [Rep])
            · exact h3.elim
          · exact h3.elim
        · exact h3.elim
      · cases q1
    | _ => exact absurd q1 (by simp [recOk])
/-- d.get(k) -/
def rGet1 : V → List V → Hp → VK → Prop := fun x xs H Q => ∃ (a : Addr) (y : V) (o : Option V), x = .ref a ∧ xs = [y] ∧ DGet H a y o ∧ Q (o.getD .non) H
theorem mt_get1 (hu : X.A.units + 1 < cLine) : MtR X "dict.get" rGet1 := by
  intro pins s σ H x xs v us Q I rx rxs h
  obtain ⟨a, y, o, rfl, rfl, g, q⟩ := h
  cases rx
  obtain ⟨u, rfl, ru⟩ := vals1 rxs
  exact d_get1 hu I g ru fun w' s4 I4 rw' => ⟨_, H, I4, rw', q⟩
theorem s_get1 {o e : Expr} {o' e' : E} {apos cpos : Pos} (k : Kit X W) (ho : PE X o (tE cA X.K X.w W (ev cl C o'))) (he : PE X e (tE cA X.K X.w W (ev cl C e')))
    (hbase : attributeBase o "get" X.env (eval o X.env) = eval o X.env := by rfl)
    (hfew : ((backTo cpos (starEach [e] X.env)).all (fun x => !x.1) && (backToKw cpos (keywordEach [] X.env)).all (fun x => x.1.isSome)
      && decide (([e] : List Expr).length + ([] : List Keyword).length + (if ([] : List Keyword).isEmpty then 0 else 1) < 30)) = true := by rfl)
    (hline : (apos.endLine == cpos.line) = true := by rfl) (hs : starEach [e] X.env = (false, eval e X.env) :: starEach [] X.env := by rfl) (hpl : (backTo cpos (starEach [] X.env)).any (·.1) = false := by rfl) :
    PE X (.Call (.Attribute o "get" apos) [e] [] cpos) (tE cA X.K X.w W (ev cl C (.met .get1 o' (.c e' .n)))) :=
  (pe_bm PySem.F.plainAttrs_dict PySem.F.slot_dict_get PySem.F.type_dict_get (mt_get1 (by have := k.gx.un; omega)) ho (pa_cons he pa_nil hs) hbase hfew hline hs hpl).imp fun σ H Q ⟨r, m, j, rs, wd, h⟩ => by
    simp only [ev, evs] at h
    refine ⟨r, m, j, rs, wd, (Pst.bnd h).mono fun d m1 H1 j1 e1 wd1 h1 v rv => ?_⟩
    obtain ⟨q1, q2⟩ := (Pst.bnd h1).rec
    have q2 := Pst.ok q2 wd1
    have fin : ∀ {a : Addr} {ks : List Key} {us : List V} {xs : List D} {H2 : Hp} {j2 : J} {m2 : Sto} {x : D} {u : V}, Wd X.K X.w H2 j2 m2 → H2 a = some (.dK (ks.zip us)) → ks.length = us.length → RepL X.K X.w H2 j2 xs us → Rep X.K X.w H2 j2 x u → Pst cA X.K X.w W H2 j2 (fun d _ H' j' => ∀ v, Rep X.K X.w H' j' d v → Q v H') (match (dKey x).map fun q => (getK ks xs q).getD D.non with
        | some d => R.ok d m2
        | none => .bad) → rGet1 (.ref a) [u] H2 Q := fun {a ks us xs H2 j2 m2 x u} wd2 ha hl rl ru h2 => by
      cases e : dKey x with
      | none => rw [e] at h2; exact h2.elim
      | some q =>
        rw [e] at h2
        have ek := dKey_rep e ru
        subst ek
        refine ⟨a, _, _, rfl, rfl, DGet.k ha, Pst.ok h2 wd2 _ ?_⟩
        exact get_yes hl rl (by simp only [Rep])
    cases d with
    | ref n =>
      simp only [Rep] at rv
      obtain ⟨a, rfl, hj⟩ := rv
      simp only [recOk] at q1
      split at q1
      · rename_i ks xs hm
        obtain ⟨vs, q3, hl3, q4, nd⟩ := wd1.at_ n a _ hj hm
        refine ⟨.inr (.inr (.inl ⟨rfl, .inl ⟨_, q3⟩⟩)), r, m1, j1, rs.ext e1, wd1, (Pst.bnd (Pst.bnd q2)).mono fun x m2 H2 j2 e2 wd2 h2 u ru => ?_⟩
        have h2 := Pst.ok h2 wd2
        have hj2 := e2.ix hj
        unfold metM metD at h2
        simp only at h2
        cases hm' : m2[n]? with
        | none => simp only [hm'] at h2; exact h2.elim
        | some c =>
          cases c with
          | dct ks' xs' =>
            simp only [hm'] at h2
            obtain ⟨us, p1, pl, p2, pn⟩ := wd2.at_ n a _ hj2 hm'
            exact fin wd2 p1 pl p2 ru h2
          | _ => simp only [hm'] at h2; exact h2.elim
      · cases q1
    | dct ks ds =>
      simp only [Rep] at rv
      obtain ⟨a, vs, rfl, hn, p1, pl, p2⟩ := rv
      refine ⟨.inr (.inr (.inl ⟨rfl, .inl ⟨_, p1⟩⟩)), r, m1, j1, rs.ext e1, wd1, (Pst.bnd (Pst.bnd q2)).mono fun x m2 H2 j2 e2 wd2 h2 u ru => ?_⟩
      have h2 := Pst.ok h2 wd2
      unfold metM metD at h2
      simp only at h2
      exact fin wd2 (e2.keep _ _ hn p1) pl (p2.ext e2) ru h2
    | _ => exact absurd q1 (by simp [recOk])
/-- sum(xs) -/
theorem blt_sum (G : Gx X) : CallR X (.builtin "sum") (rB X.K X.w .sum) := by
  intro pins s σ H xs us Q I r ⟨ds, d, j, m, rl, wd, e, q⟩
  unfold bltD at e
  split at e <;> first | (rename_i h; cases h) | skip
  all_goals try cases e
  obtain ⟨ns, e1, rfl⟩ := Option.map_eq_some_iff.mp e
  obtain ⟨v, rfl, rv⟩ := rl.one
  simp only [Rep] at rv
  obtain ⟨a, vs, rfl, _, hq, rl⟩ := rv
  have := ints_repl e1 rl
  subst this
  exact cr_sum G.calm pins s σ H _ us Q I r ⟨a, ns, rfl, .inl hq, q _ H same_refl (by simp only [Rep])⟩
end
end Mp
end
section -- MpQ
set_option Elab.async false
set_option linter.all false
set_option maxRecDepth 100000
/-! Mp, part Q: total runs of the language, by its words. -/
namespace Mp
open PySem L2
section
variable {α β : Type} {m : Sto} {Q : α → Sto → Prop} {cl : Nat → List D → M D} {C : List D} {r : Env}
@[simp] theorem wp_ret' {a : α} : wp (M.ret a) m Q ↔ Q a m := ⟨fun ⟨_, _, e, q⟩ => (by cases e; exact q), wp_ret⟩
@[simp] theorem wp_bad' : wp (M.bad : M α) m Q ↔ False := ⟨fun ⟨_, _, e, _⟩ => (by cases e), fun h => h.elim⟩
@[simp] theorem wp_bnd' {x : M β} {f : β → M α} : wp (x.bnd f) m Q ↔ wp x m fun a m1 => wp (f a) m1 Q := ⟨fun ⟨b, m2, e, q⟩ => by
  obtain ⟨a, m1, e1, e2⟩ := bnd_ok e
  exact ⟨a, m1, e1, b, m2, e2, q⟩, wp_bnd⟩
@[simp] theorem wp_opt' {o : Option α} : wp (M.opt o) m Q ↔ ∃ a, o = some a ∧ Q a m := by
  cases o with
  | none => simp [M.opt]
  | some a => simp [M.opt]
@[simp] theorem wp_optM' {f : Sto → Option α} : wp (optM f) m Q ↔ ∃ a, f m = some a ∧ Q a m := by
  unfold wp optM
  cases e : f m with
  | none => simp
  | some a =>
    simp only [R.ok.injEq, Option.some.injEq]
    constructor
    · rintro ⟨b, m', ⟨e1, e2⟩, q⟩; subst e1 e2; exact ⟨_, rfl, q⟩
    · rintro ⟨b, e1, q⟩; subst e1; exact ⟨_, _, ⟨rfl, rfl⟩, q⟩
@[simp] theorem wp_ite' {p : Prop} [Decidable p] {x y : M α} : wp (if p then x else y) m Q ↔ if p then wp x m Q else wp y m Q := by
  by_cases h : p <;> simp [h]
@[simp] theorem wp_cmpM' {o : CmpOp} {x y : D} {Q : Bool → Sto → Prop} : wp (cmpM o x y) m Q ↔ ∃ b, cmpD m o x y = some b ∧ Q b m := by
  have : cmpM o x y = optM fun m => cmpD m o x y := by
    funext m; unfold cmpM optM; dsimp only; cases cmpD m o x y <;> rfl
  rw [this, wp_optM']
@[simp] theorem wp_truM' {x : D} {Q : Bool → Sto → Prop} : wp (truM x) m Q ↔ ∃ b, truD m x = some b ∧ Q b m := by
  have : truM x = optM fun m => truD m x := by
    funext m; unfold truM optM; dsimp only; cases truD m x <;> rfl
  rw [this, wp_optM']
theorem wp_congr {x : M α} {Q' : α → Sto → Prop} (h : ∀ a m', Q a m' ↔ Q' a m') : wp x m Q ↔ wp x m Q' := ⟨fun q => wp_mono q fun a m' => (h a m').1, fun q => wp_mono q fun a m' => (h a m').2⟩
theorem wp_calm {x : M α} : wp x.calm m Q ↔ wp x m Q := by
  unfold wp M.calm
  constructor
  · rintro ⟨a, m', e, q⟩
    cases h : x m with
    | ok b m1 => rw [h] at e; exact ⟨a, m', e, q⟩
    | exc _ _ => rw [h] at e; cases e
    | bad => rw [h] at e; cases e
  · rintro ⟨a, m', e, q⟩
    exact ⟨a, m', by rw [e], q⟩
end
section
variable {m : Sto} {cl : Nat → List D → M D} {C : List D} {r : Env}
variable {Q : D → Sto → Prop}
@[simp] theorem w_loc {i : Nat} : wp (ev cl C (.loc i) r) m Q ↔ ∃ d, r[i]? = some (some d) ∧ Q d m := by
  simp only [ev]
  cases e : r[i]? with
  | none => simp
  | some o => cases o <;> simp
@[simp] theorem w_cst {d : D} : wp (ev cl C (.cst d) r) m Q ↔ Q d m := by simp only [ev]; exact wp_ret'
@[simp] theorem w_glo {i : Nat} : wp (ev cl C (.glo i) r) m Q ↔ ∃ d, C[i]? = some d ∧ Q d m := by simp only [ev, wp_opt']
@[simp] theorem w_tup {es : Es} : wp (ev cl C (.tup es) r) m Q ↔ wp (evs cl C es r) m fun ds m1 => ds.length ≤ sizeLine ∧ Q (.tup ds) m1 := by
  simp only [ev, wp_bnd', wp_ite', wp_ret', wp_bad', if_false_right]
@[simp] theorem w_lst {es : Es} : wp (ev cl C (.lst es) r) m Q ↔ wp (evs cl C es r) m fun ds m1 => ds.length ≤ sizeLine ∧ Q (.lst ds) m1 := by
  simp only [ev, wp_bnd', wp_ite', wp_ret', wp_bad', if_false_right]
theorem wp_ok {α : Type} {a : α} {m m' : Sto} {Q : α → Sto → Prop} : wp (fun _ => .ok a m') m Q ↔ Q a m' := ⟨fun ⟨_, _, e, q⟩ => (by cases e; exact q), fun q => ⟨_, _, rfl, q⟩⟩
@[simp] theorem w_lsm {es : Es} : wp (ev cl C (.lsm es) r) m Q ↔ wp (evs cl C es r) m fun ds m1 => ds.length ≤ sizeLine ∧ Q (.ref m1.length) (m1 ++ [.lst ds]) := by
  simp only [ev, wp_bnd', wp_ite', wp_bad', if_false_right]
  have : ∀ ds m1, wp (fun m => .ok (.ref m.length) (m ++ [.lst ds])) m1 Q ↔ Q (.ref m1.length) (m1 ++ [.lst ds]) := fun ds m1 => ⟨fun ⟨_, _, e, q⟩ => (by cases e; exact q), fun q => ⟨_, _, rfl, q⟩⟩
  simp only [this]
@[simp] theorem w_bin {o : Operator} {a b : E} : wp (ev cl C (.bin o a b) r) m Q ↔ wp (ev cl C a r) m fun x m1 => wp (ev cl C b r) m1 fun y m2 => ∃ d, binD m2 o x y = some d ∧ Q d m2 := by
  simp only [ev, wp_bnd', wp_optM']
@[simp] theorem w_neg {a : E} : wp (ev cl C (.neg a) r) m Q ↔ wp (ev cl C a r) m fun x m1 => ∃ i, x = .int i ∧ Q (.int (-i)) m1 := by
  simp only [ev, wp_bnd']
  exact wp_congr fun x m1 => by cases x <;> simp
@[simp] theorem w_cmp {o : CmpOp} {a b : E} : wp (ev cl C (.cmp o a b) r) m Q ↔ wp (ev cl C a r) m fun x m1 => wp (ev cl C b r) m1 fun y m2 => ∃ k, cmpD m2 o x y = some k ∧ Q (.bl k) m2 := by
  simp only [ev, wp_bnd', wp_cmpM', wp_ret']
@[simp] theorem w_and {es : Es} : wp (ev cl C (.and es) r) m Q ↔ wp (evA cl C es r) m Q := by simp only [ev]
@[simp] theorem w_or {es : Es} : wp (ev cl C (.or es) r) m Q ↔ wp (evO cl C es r) m Q := by simp only [ev]
@[simp] theorem w_not {a : E} : wp (ev cl C (.not a) r) m Q ↔ wp (ev cl C a r) m fun x m1 => ∃ i, x = .bl i ∧ Q (.bl (!i)) m1 := by
  simp only [ev, wp_bnd']
  exact wp_congr fun x m1 => by cases x <;> simp
@[simp] theorem w_ite {t a b : E} : wp (ev cl C (.ite t a b) r) m Q ↔ wp (evT cl C t r) m fun k m1 => if k = true then wp (ev cl C a r) m1 Q else wp (ev cl C b r) m1 Q := by
  simp only [ev, wp_bnd', wp_ite']
@[simp] theorem w_sub {a b : E} : wp (ev cl C (.sub a b) r) m Q ↔ wp (ev cl C a r) m fun x m1 => wp (ev cl C b r) m1 fun y m2 => ∃ d, ixD m2 x y = some d ∧ Q d m2 := by
  simp only [ev, wp_bnd', wp_optM']
@[simp] theorem w_sli {a : E} {lo hi : OE} : wp (ev cl C (.sli a lo hi) r) m Q ↔ wp (ev cl C a r) m fun x m1 => wp (evo cl C lo r) m1 fun l m2 => wp (evo cl C hi r) m2 fun h m3 => ∃ d, sliD m3 x l h = some d ∧ Q d m3 := by
  simp only [ev, wp_bnd', wp_optM']
@[simp] theorem w_rev {a : E} : wp (ev cl C (.rev a) r) m Q ↔ wp (ev cl C a r) m fun x m1 => ∃ d, revD m1 x = some d ∧ Q d m1 := by
  simp only [ev, wp_bnd', wp_optM']
@[simp] theorem w_call {f : Nat} {es : Es} : wp (ev cl C (.call f es) r) m Q ↔ wp (evs cl C es r) m fun ds m1 => wp (cl f ds) m1 Q := by
  simp only [ev, wp_bnd']
@[simp] theorem w_calk {f : Nat} {es ks : Es} {pm : List Nat} : wp (ev cl C (.calk f es ks pm) r) m Q ↔ wp (evs cl C es r) m fun ds m1 => wp (evs cl C ks r) m1 fun kd m2 => ∃ vs, arrange (ds ++ kd) pm = some vs ∧ wp (cl f vs) m2 Q := by
  simp only [ev, wp_bnd', wp_opt']
@[simp] theorem w_blt {b : Blt} {es : Es} : wp (ev cl C (.blt b es) r) m Q ↔ wp (evs cl C es r) m fun ds m1 => ∃ d, bltD m1 b ds = some d ∧ Q d m1 := by
  simp only [ev, wp_bnd', wp_optM']
@[simp] theorem w_isi {a : E} {t : Ty} : wp (ev cl C (.isi a t) r) m Q ↔ wp (ev cl C a r) m fun x m1 => Q (.bl (isiD m1 x t)) m1 := by
  simp only [ev, wp_bnd']
  have : ∀ (x : D) m1, wp (fun m => .ok (.bl (isiD m x t)) m) m1 Q ↔ Q (.bl (isiD m1 x t)) m1 := fun ds m1 => ⟨fun ⟨_, _, e, q⟩ => (by cases e; exact q), fun q => ⟨_, _, rfl, q⟩⟩
  simp only [this]
@[simp] theorem w_met {b : Met} {a : E} {es : Es} : wp (ev cl C (.met b a es) r) m Q ↔ wp (ev cl C a r) m fun x m1 => recOk m1 b x = true ∧ wp (evs cl C es r) m1 fun ds m2 => wp (metM b x ds) m2 Q := by
  simp only [ev, wp_bnd']
  have : ∀ (x : D) (m1 : Sto) (Q : Unit → Sto → Prop), wp (recM b x) m1 Q ↔ recOk m1 b x = true ∧ Q () m1 := fun x m1 Q => by
    unfold wp recM
    by_cases h : recOk m1 b x = true
    · rw [if_pos h]; exact ⟨fun ⟨_, _, e, q⟩ => (by cases e; exact ⟨h, q⟩), fun ⟨_, q⟩ => ⟨_, _, rfl, q⟩⟩
    · rw [if_neg h]; exact ⟨fun ⟨_, _, e, q⟩ => (by cases e), fun ⟨h', _⟩ => absurd h' h⟩
  simp only [this]
@[simp] theorem w_n {Q : List D → Sto → Prop} : wp (evs cl C .n r) m Q ↔ Q [] m := by simp only [evs, wp_ret']
@[simp] theorem w_c {e : E} {es : Es} {Q : List D → Sto → Prop} : wp (evs cl C (.c e es) r) m Q ↔ wp (ev cl C e r) m fun d m1 => wp (evs cl C es r) m1 fun ds m2 => Q (d :: ds) m2 := by
  simp only [evs, wp_bnd', wp_ret']
@[simp] theorem w_no {Q : Option Int → Sto → Prop} : wp (evo cl C .no r) m Q ↔ Q none m := by simp only [evo, wp_ret']
@[simp] theorem w_so {e : E} {Q : Option Int → Sto → Prop} : wp (evo cl C (.so e) r) m Q ↔ wp (ev cl C e r) m fun x m1 => ∃ i, x = .int i ∧ Q (some i) m1 := by
  simp only [evo, wp_bnd']
  exact wp_congr fun x m1 => by cases x <;> simp
@[simp] theorem w_a1 {e : E} : wp (evA cl C (.c e .n) r) m Q ↔ wp (ev cl C e r) m Q := by simp only [evA]
@[simp] theorem w_ac {e f : E} {es : Es} : wp (evA cl C (.c e (.c f es)) r) m Q ↔ wp (ev cl C e r) m fun x m1 => ∃ k, x = .bl k ∧ if k = true then wp (evA cl C (.c f es) r) m1 Q else Q (.bl false) m1 := by
  conv => lhs; unfold evA
  simp only [wp_bnd']
  refine wp_congr fun x m1 => ?_
  cases x with
  | bl b => cases b <;> simp
  | _ => simp
@[simp] theorem w_o1 {e : E} : wp (evO cl C (.c e .n) r) m Q ↔ wp (ev cl C e r) m Q := by simp only [evO]
@[simp] theorem w_oc {e f : E} {es : Es} : wp (evO cl C (.c e (.c f es)) r) m Q ↔ wp (ev cl C e r) m fun x m1 => ∃ k, x = .bl k ∧ if k = true then Q (.bl true) m1 else wp (evO cl C (.c f es) r) m1 Q := by
  conv => lhs; unfold evO
  simp only [wp_bnd']
  refine wp_congr fun x m1 => ?_
  cases x with
  | bl b => cases b <;> simp
  | _ => simp
end
section
variable {m : Sto} {cl : Nat → List D → M D} {C : List D} {r : Env} {Q : Bool → Sto → Prop}
@[simp] theorem v_and {es : Es} : wp (evT cl C (.and es) r) m Q ↔ wp (evA1 cl C es r) m Q := by simp only [evT]
@[simp] theorem v_or {es : Es} : wp (evT cl C (.or es) r) m Q ↔ wp (evO1 cl C es r) m Q := by simp only [evT]
@[simp] theorem v_not {a : E} : wp (evT cl C (.not a) r) m Q ↔ wp (evT cl C a r) m fun k m1 => Q (!k) m1 := by simp only [evT, wp_bnd', wp_ret']
@[simp] theorem v_cmp {o : CmpOp} {a b : E} : wp (evT cl C (.cmp o a b) r) m Q ↔ wp (ev cl C a r) m fun x m1 => wp (ev cl C b r) m1 fun y m2 => ∃ k, cmpD m2 o x y = some k ∧ Q k m2 := by
  simp only [evT, wp_bnd', wp_cmpM']
@[simp] theorem v_loc {i : Nat} : wp (evT cl C (.loc i) r) m Q ↔ ∃ d, r[i]? = some (some d) ∧ ∃ k, truD m d = some k ∧ Q k m := by
  simp only [evT]
  cases e : r[i]? with
  | none => simp
  | some o => cases o <;> simp
@[simp] theorem v_call {f : Nat} {es : Es} : wp (evT cl C (.call f es) r) m Q ↔ wp (evs cl C es r) m fun ds m1 => wp (cl f ds) m1 fun d m2 => ∃ k, truD m2 d = some k ∧ Q k m2 := by
  simp only [evT, wp_bnd', wp_truM']
@[simp] theorem v_blt {b : Blt} {es : Es} : wp (evT cl C (.blt b es) r) m Q ↔ wp (evs cl C es r) m fun ds m1 => ∃ d, bltD m1 b ds = some d ∧ ∃ k, truD m1 d = some k ∧ Q k m1 := by
  simp only [evT, wp_bnd', wp_truM', wp_optM']
@[simp] theorem v_isi {a : E} {t : Ty} : wp (evT cl C (.isi a t) r) m Q ↔ wp (ev cl C a r) m fun x m1 => Q (isiD m1 x t) m1 := by
  simp only [evT, wp_bnd']
  have : ∀ (x : D) m1, wp (fun m => .ok (isiD m x t) m) m1 Q ↔ Q (isiD m1 x t) m1 := fun ds m1 => ⟨fun ⟨_, _, e, q⟩ => (by cases e; exact q), fun q => ⟨_, _, rfl, q⟩⟩
  simp only [this]
@[simp] theorem v_a0 : wp (evA1 cl C .n r) m Q ↔ Q true m := by simp only [evA1, wp_ret']
@[simp] theorem v_ac {e : E} {es : Es} : wp (evA1 cl C (.c e es) r) m Q ↔ wp (evT cl C e r) m fun k m1 => if k = true then wp (evA1 cl C es r) m1 Q else Q false m1 := by
  simp only [evA1, wp_bnd', wp_ite', wp_ret']
@[simp] theorem v_o0 : wp (evO1 cl C .n r) m Q ↔ Q false m := by simp only [evO1, wp_ret']
@[simp] theorem v_oc {e : E} {es : Es} : wp (evO1 cl C (.c e es) r) m Q ↔ wp (evT cl C e r) m fun k m1 => if k = true then Q true m1 else wp (evO1 cl C es r) m1 Q := by
  simp only [evO1, wp_bnd', wp_ite', wp_ret']
end
section
variable {m : Sto} {cl : Nat → List D → M D} {C : List D} {r : Env} {Q : Env → Sto → Prop}
@[simp] theorem a_nm {i : Nat} {d : D} : wp (asT cl C (.nm i) d r) m Q ↔ i < r.length ∧ Q (r.set i (some d)) m := by
  simp only [asT, wp_ite', wp_ret', wp_bad', if_false_right]
@[simp] theorem a_tp {ts : Tgs} {d : D} : wp (asT cl C (.tp ts) d r) m Q ↔ ∃ ds, d = .tup ds ∧ ds.length = ts.len ∧ wp (asTs cl C ts ds r) m Q := by
  cases d <;> simp [asT]
@[simp] theorem a_n {ds : List D} : wp (asTs cl C .n ds r) m Q ↔ ds = [] ∧ Q r m := by
  cases ds <;> simp [asTs]
theorem a_c {t : Tg} {ts : Tgs} {ds : List D} : wp (asTs cl C (.c t ts) ds r) m Q ↔ ∃ d dr, ds = d :: dr ∧ wp (asT cl C t d r) m fun r1 m1 => wp (asTs cl C ts dr r1) m1 Q := by
  cases ds with
  | nil => simp [asTs]
  | cons d dr =>
    simp only [asTs, wp_bnd']
    exact ⟨fun h => ⟨d, dr, rfl, h⟩, fun ⟨d', dr', e, h⟩ => by cases e; exact h⟩
@[simp] theorem a_sb {o i : E} {d : D} : wp (asT cl C (.sb o i) d r) m Q ↔ wp (ev cl C o r) m fun x m1 => wp (ev cl C i r) m1 fun y m2 => wp (setD x y d) m2 fun _ m3 => Q r m3 := by
  simp only [asT, wp_bnd', wp_ret']
theorem wp_setD {n : Nat} {k : Int} {x : D} {xs : List D} {j : Nat} {Q : Unit → Sto → Prop} (h1 : m[n]? = some (.lst xs)) (h2 : ixN xs.length k = some j) : wp (setD (.ref n) (.int k) x) m Q ↔ Q () (m.set n (.lst (xs.set j x))) := by
  unfold wp setD
  simp only [h1, h2]
  exact ⟨fun ⟨_, _, e, q⟩ => (by cases e; exact q), fun q => ⟨_, _, rfl, q⟩⟩
end
section
variable {m : Sto} {cl : Nat → List D → M D} {C : List D} {r : Env} {Q : Fl → Sto → Prop}
@[simp] theorem x_asg {t : Tg} {e : E} : wp (ex cl C (.asg t e) r) m Q ↔ wp (ev cl C e r) m fun d m1 => wp (asT cl C t d r) m1 fun r1 m2 => Q (.nx r1) m2 := by
  simp only [ex, wp_bnd', wp_ret']
@[simp] theorem x_exp {e : E} : wp (ex cl C (.exp e) r) m Q ↔ wp (ev cl C e r) m fun _ m1 => Q (.nx r) m1 := by
  simp only [ex, wp_bnd', wp_ret']
@[simp] theorem x_ret {e : E} : wp (ex cl C (.ret e) r) m Q ↔ wp (ev cl C e r) m fun d m1 => Q (.rt d) m1 := by
  simp only [ex, wp_bnd', wp_ret']
@[simp] theorem x_retn : wp (ex cl C .retn r) m Q ↔ Q (.rt .non) m := by simp only [ex, wp_ret']
@[simp] theorem x_iff {c : E} {a b : Ss} : wp (ex cl C (.iff c a b) r) m Q ↔ wp (evT cl C c r) m fun k m1 => if k = true then wp (exs cl C a r) m1 Q else wp (exs cl C b r) m1 Q := by
  simp only [ex, wp_bnd', wp_ite']
@[simp] theorem x_brk : wp (ex cl C .brk r) m Q ↔ Q (.bk r) m := by simp only [ex, wp_ret']
@[simp] theorem x_cnt : wp (ex cl C .cnt r) m Q ↔ Q (.ct r) m := by simp only [ex, wp_ret']
@[simp] theorem x_pas : wp (ex cl C .pas r) m Q ↔ Q (.nx r) m := by simp only [ex, wp_ret']
@[simp] theorem x_n : wp (exs cl C .n r) m Q ↔ Q (.nx r) m := by simp only [exs, wp_ret']
/-- behind a statement -/
def thenS (cl : Nat → List D → M D) (C : List D) (ss : Ss) (Q : Fl → Sto → Prop) : Fl → Sto → Prop
  | .nx r, m => wp (exs cl C ss r) m Q
  | .rt d, m => Q (.rt d) m
  | .bk r, m => Q (.bk r) m
  | .ct r, m => Q (.ct r) m
@[simp] theorem thenS_nx {ss : Ss} : thenS cl C ss Q (.nx r) m ↔ wp (exs cl C ss r) m Q := Iff.rfl
@[simp] theorem thenS_rt {ss : Ss} {d : D} : thenS cl C ss Q (.rt d) m ↔ Q (.rt d) m := Iff.rfl
@[simp] theorem thenS_bk {ss : Ss} : thenS cl C ss Q (.bk r) m ↔ Q (.bk r) m := Iff.rfl
@[simp] theorem thenS_ct {ss : Ss} : thenS cl C ss Q (.ct r) m ↔ Q (.ct r) m := Iff.rfl
@[simp] theorem x_c {s : S} {ss : Ss} : wp (exs cl C (.c s ss) r) m Q ↔ wp (ex cl C s r) m (thenS cl C ss Q) := by
  simp only [exs, wp_bnd']
  exact wp_congr fun a m1 => by cases a <;> simp [thenS]
/-- the end of a def -/
def endD (Q : D → Sto → Prop) : Fl → Sto → Prop
  | .rt d, m => Q d m
  | .nx _, m => Q .non m
  | _, _ => False
@[simp] theorem endD_rt {Q : D → Sto → Prop} {d : D} : endD Q (.rt d) m ↔ Q d m := Iff.rfl
@[simp] theorem endD_nx {Q : D → Sto → Prop} : endD Q (.nx r) m ↔ Q .non m := Iff.rfl
end
theorem wp_run {F : List Fn} {C : List D} {i n : Nat} {g : Fn} {ds : List D} {m : Sto} {Q : D → Sto → Prop} (hF : F[i]? = some g) (hl : ds.length = g.ps) (h : wp (exs (run F C n) C g.body (ds.map some ++ List.replicate (g.n - g.ps) none)) m (endD Q)) : wp (run F C (n + 1) i ds) m Q := by
  rw [run_all hF hl, wp_bnd']
  refine wp_mono h fun f m' q => ?_
  cases f with
  | rt d => exact wp_ret q
  | nx r => exact wp_ret q
  | bk r => exact q.elim
  | ct r => exact q.elim
/-! loops -/
/-- what is wanted behind a loop -/
def loopQ (Q : Fl → Sto → Prop) (P : Env → Sto → Prop) : Fl → Sto → Prop
  | .nx r, m => P r m
  | .ct r, m => P r m
  | .bk r, m => Q (.nx r) m
  | .rt d, m => Q (.rt d) m
theorem wp_forL {body : D → Env → M Fl} {Q : Fl → Sto → Prop} (P : List D → Env → Sto → Prop) : ∀ (xs : List D) (r : Env) (m : Sto), P xs r m → (∀ x rest r m, P (x :: rest) r m → wp (body x r) m (loopQ Q (P rest))) → (∀ r m, P [] r m → Q (.nx r) m) → wp (forL body xs r) m Q
  | [], r, m, h, hs, he => wp_ret (he r m h)
  | x :: xs, r, m, h, hs, he => by
    simp only [forL, wp_bnd']
    refine wp_mono (hs x xs r m h) fun f m1 q => ?_
    cases f with
    | nx r1 => exact wp_forL P xs r1 m1 q hs he
    | ct r1 => exact wp_forL P xs r1 m1 q hs he
    | bk r1 => exact wp_ret q
    | rt d => exact wp_ret q
/-- a comprehension over given items -/
theorem wp_lcL {one : D → M (Option D)} (P : List D → List D → Sto → Prop) : ∀ (xs : List D) (acc : List D) (m : Sto) (Q : List D → Sto → Prop), P xs acc m → (∀ x rest acc m, P (x :: rest) acc m → wp (one x) m fun o m1 => P rest (match o with
      | some d => acc ++ [d]
      | none => acc) m1) → (∀ ds m, P [] (acc ++ ds) m → Q ds m) → wp (lcL one xs) m Q
  | [], acc, m, Q, h, hs, he => by
    simp only [lcL, wp_ret']
    exact he [] m (by rw [List.append_nil]; exact h)
  | x :: xs, acc, m, Q, h, hs, he => by
    simp only [lcL, wp_bnd']
    refine wp_mono (hs x xs acc m h) fun o m1 q => ?_
    cases o with
    | none => exact wp_mono (wp_lcL P xs acc m1 Q q hs he) fun ds m2 q2 => wp_ret q2
    | some d => exact wp_mono (wp_lcL P xs (acc ++ [d]) m1 (fun ds m2 => Q (d :: ds) m2) q hs fun ds m2 q2 => he (d :: ds) m2 (by simpa using q2)) fun ds m2 q2 => wp_ret q2
/-! operations on data that is known -/
section
variable {m : Sto} {i j : Int} {x y : Str} {xs ys : List D}
@[simp] theorem b_add : binD m .Add (.int i) (.int j) = some (.int (i + j)) := rfl
@[simp] theorem b_addS : binD m .Add (.str x) (.str y) = if x.length + y.length ≤ sizeLine then some (.str (x ++ y)) else none := rfl
@[simp] theorem b_addT : binD m .Add (.tup xs) (.tup ys) = if xs.length + ys.length ≤ sizeLine then some (.tup (xs ++ ys)) else none := rfl
@[simp] theorem b_addL : binD m .Add (.lst xs) (.lst ys) = if xs.length + ys.length ≤ sizeLine then some (.lst (xs ++ ys)) else none := rfl
@[simp] theorem b_sub : binD m .Sub (.int i) (.int j) = some (.int (i - j)) := rfl
@[simp] theorem b_mul : binD m .Mult (.int i) (.int j) = if mulOk i j then some (.int (i * j)) else none := rfl
@[simp] theorem b_mod : binD m .Mod (.int i) (.int j) = if 0 < j then some (.int (i % j)) else none := rfl
@[simp] theorem b_fdiv : binD m .FloorDiv (.int i) (.int j) = if 0 < j ∧ j < 1073741824 then some (.int (i / j)) else none := rfl
@[simp] theorem b_pow : binD m .Pow (.int i) (.int j) = if 0 ≤ j ∧ ((Builtin.Int.intBits i : Nat) : Int) * j ≤ 2 ^ 27 then some (.int (i ^ j.toNat)) else none := rfl
theorem mulOk_r (h1 : -(2 ^ 64) < j) (h2 : j < 2 ^ 64) : mulOk i j = true := by simp only [mulOk, decide_eq_true h1, decide_eq_true h2]; simp
theorem mulOk_l (h1 : -(2 ^ 64) < i) (h2 : i < 2 ^ 64) : mulOk i j = true := by simp only [mulOk, decide_eq_true h1, decide_eq_true h2]; simp
@[simp] theorem i_tup : ixD m (.tup xs) (.int i) = atI xs i := rfl
@[simp] theorem i_lst : ixD m (.lst xs) (.int i) = atI xs i := rfl
theorem i_ref {n : Nat} (h : m[n]? = some (.lst xs)) : ixD m (.ref n) (.int i) = atI xs i := by simp only [ixD, h]
theorem at_n {α : Type} {xs : List α} (k : Nat) : atI xs (k : Int) = xs[k]? := by
  by_cases h : k < xs.length
  · simp [atI, ixN, h]
  · simp [atI, ixN, h]
@[simp] theorem at_0 {α : Type} {xs : List α} : atI xs 0 = xs[0]? := at_n 0
@[simp] theorem at_1 {α : Type} {xs : List α} : atI xs 1 = xs[1]? := at_n 1
@[simp] theorem at_2 {α : Type} {xs : List α} : atI xs 2 = xs[2]? := at_n 2
@[simp] theorem at_3 {α : Type} {xs : List α} : atI xs 3 = xs[3]? := at_n 3
@[simp] theorem at_4 {α : Type} {xs : List α} : atI xs 4 = xs[4]? := at_n 4
@[simp] theorem at_5 {α : Type} {xs : List α} : atI xs 5 = xs[5]? := at_n 5
@[simp] theorem at_6 {α : Type} {xs : List α} : atI xs 6 = xs[6]? := at_n 6
@[simp] theorem at_7 {α : Type} {xs : List α} : atI xs 7 = xs[7]? := at_n 7
theorem atI_nat {α : Type} {xs : List α} {k : Nat} (h : k < xs.length) : atI xs (k : Int) = some xs[k] := by
  simp [atI, ixN, h]
theorem atI_mem {α : Type} {xs : List α} {i : Int} (h0 : 0 ≤ i) (h1 : i < xs.length) : ∃ x, atI xs i = some x ∧ x ∈ xs := by
  obtain ⟨k, rfl⟩ := Int.eq_ofNat_of_zero_le h0
  have h : k < xs.length := by omega
  exact ⟨xs[k], atI_nat h, List.getElem_mem h⟩
@[simp] theorem c_gt : cmpD m .Gt (.int i) (.int j) = some (decide (j < i)) := rfl
@[simp] theorem c_ge : cmpD m .GtE (.int i) (.int j) = some (decide (j ≤ i)) := rfl
@[simp] theorem c_lt : cmpD m .Lt (.int i) (.int j) = some (decide (i < j)) := rfl
@[simp] theorem c_le : cmpD m .LtE (.int i) (.int j) = some (decide (i ≤ j)) := rfl
@[simp] theorem c_eq {a b : D} : cmpD m .Eq a b = eqD a b := rfl
@[simp] theorem c_ne {a b : D} : cmpD m .NotEq a b = ((eqG a b).or (eqS a b)).map (!·) := rfl
@[simp] theorem c_in {a b : D} : cmpD m .In a b = inD m a b := rfl
@[simp] theorem c_nin {a b : D} : cmpD m .NotIn a b = (inD m a b).map (!·) := rfl
theorem dep0 {p q : PyData} (h : p.depth = 0) : min p.depth q.depth ≤ 190 := by omega
@[simp] theorem g_int : eqG (.int i) (.int j) = some (i == j) := by simp [eqG, toPy, PyData.canLay0, PyData.depth, PyData.eqv]
theorem g_str (h1 : PyData.strOk x = true) (h2 : PyData.strOk y = true) : eqG (.str x) (.str y) = some (x == y) := by simp [eqG, toPy, PyData.canLay0, PyData.depth, PyData.eqv, h1, h2]
@[simp] theorem g_bl {a b : Bool} : eqG (.bl a) (.bl b) = some (a == b) := by simp [eqG, toPy, PyData.canLay0, PyData.depth, PyData.eqv]
@[simp] theorem e_int : eqD (.int i) (.int j) = some (i == j) := by simp only [eqD, g_int, Option.some_or]
theorem e_self : eqD (.str x) (.str x) = some true := by
  simp only [eqD, eqS, beq_self_eq_true]
  cases hg : eqG (.str x) (.str x) with
  | none => rfl
  | some c =>
    unfold eqG at hg
    simp only [toPy] at hg
    split at hg
    · cases hg; simp [PyData.eqv]
    · cases hg
theorem e_str (h1 : PyData.strOk x = true) (h2 : PyData.strOk y = true) : eqD (.str x) (.str y) = some (x == y) := by simp only [eqD, g_str h1 h2, Option.some_or]
@[simp] theorem e_bl {a b : Bool} : eqD (.bl a) (.bl b) = some (a == b) := by simp only [eqD, g_bl, Option.some_or]
@[simp] theorem e_tn : eqD (.tup xs) (.tup []) = some xs.isEmpty := by cases xs <;> simp [eqD]
@[simp] theorem l_tup : lenD m (.tup xs) = some xs.length := rfl
@[simp] theorem l_lst : lenD m (.lst xs) = some xs.length := rfl
theorem l_ref {n : Nat} (h : m[n]? = some (.lst xs)) : lenD m (.ref n) = some xs.length := by simp only [lenD, items, h, Option.map_some]
@[simp] theorem l_str (h : x.length ≤ sizeLine) : lenD m (.str x) = some x.length := by simp only [lenD, if_pos h]
@[simp] theorem t_len {d : D} : bltD m .len [d] = (lenD m d).map fun (n : Nat) => .int (n : Int) := rfl
@[simp] theorem t_int : bltD m .int [.int i] = some (.int i) := rfl
@[simp] theorem t_intb {b : Bool} : bltD m .int [.bl b] = some (.int (if b then 1 else 0)) := rfl
@[simp] theorem t_abs : bltD m .abs [.int i] = some (.int (if i < 0 then -i else i)) := rfl
@[simp] theorem t_divmod : bltD m .divmod [.int i, .int j] = if 0 < j ∧ j < 1073741824 then some (.tup [.int (i / j), .int (i % j)]) else none := rfl
@[simp] theorem t_max2 : bltD m .max2 [.int i, .int j] = some (.int (if j > i then j else i)) := rfl
@[simp] theorem t_min2 : bltD m .min2 [.int i, .int j] = some (.int (if j < i then j else i)) := rfl
@[simp] theorem t_list {d : D} : bltD m .list [d] = (items m d).map .lst := rfl
@[simp] theorem t_tuple {d : D} : bltD m .tuple [d] = (items m d).map .tup := rfl
@[simp] theorem t_all : bltD m .all [.lst xs] = (blsOf xs).map fun ns => .bl (ns.all id) := rfl
@[simp] theorem t_repr {d : D} : bltD m .repr [d] = reprD d := rfl
@[simp] theorem tr_bl {b : Bool} : truD m (.bl b) = some b := rfl
end
section
variable {m : Sto} {cl : Nat → List D → M D} {C : List D} {r : Env} {Q : Env → Sto → Prop}
@[simp] theorem a_cc {t : Tg} {ts : Tgs} {d : D} {dr : List D} : wp (asTs cl C (.c t ts) (d :: dr) r) m Q ↔ wp (asT cl C t d r) m fun r1 m1 => wp (asTs cl C ts dr r1) m1 Q := by
  simp only [asTs, wp_bnd']
end
/-! what is walked -/
def lcO (cl : Nat → List D → M D) (C : List D) (t : Tg) (c : Es) (e : E) (r : Env) : D → M (Option D) := fun x => (asT cl C t x (wipeD r t.slots)).bnd fun r1 => (evA1 cl C c r1).bnd fun k => if k then (ev cl C e r1).bnd fun d => M.ret (some d) else M.ret none
def forB (cl : Nat → List D → M D) (C : List D) (t : Tg) (b : Ss) : D → Env → M Fl := fun x r1 => (asT cl C t x r1).bnd fun r2 => exs cl C b r2
section
variable {m : Sto} {cl : Nat → List D → M D} {C : List D} {r : Env}
@[simp] theorem w_lc {t : Tg} {i : It} {c : Es} {e : E} {Q : D → Sto → Prop} : wp (ev cl C (.lc t i c e) r) m Q ↔ wp (evi cl C i r) m fun wk m1 => wp (lcW (lcO cl C t c e r) wk) m1 fun ds m2 => ds.length ≤ sizeLine ∧ Q (.lst ds) m2 := by
  simp only [ev, wp_bnd']
  refine wp_congr fun wk m1 => ?_
  rw [wp_calm]
  exact wp_congr fun ds m2 => by simp only [wp_ite', wp_ret', wp_bad', if_false_right]
@[simp] theorem i_seq' {e : E} {Q : Wk → Sto → Prop} : wp (evi cl C (.seq e) r) m Q ↔ wp (ev cl C e r) m fun d m1 => ∃ w, seqW m1 d = some w ∧ Q w m1 := by
  simp only [evi, wp_bnd', wp_optM']
@[simp] theorem i_rg1' {e : E} {Q : Wk → Sto → Prop} : wp (evi cl C (.rg1 e) r) m Q ↔ wp (ev cl C e r) m fun d m1 => ∃ n, d = .int n ∧ small62 n = true ∧ Q (.its (rngD 0 n.toNat)) m1 := by
  simp only [evi, wp_bnd']
  refine wp_congr fun d m1 => ?_
  cases d <;> simp
@[simp] theorem i_zip' {a b : E} {Q : Wk → Sto → Prop} : wp (evi cl C (.zip a b) r) m Q ↔ wp (ev cl C a r) m fun d m1 => wp (ev cl C b r) m1 fun f m2 => ∃ w, zipW d f = some w ∧ Q w m2 := by
  simp only [evi, wp_bnd', wp_opt']
@[simp] theorem i_enm' {e : E} {Q : Wk → Sto → Prop} : wp (evi cl C (.enm e) r) m Q ↔ wp (ev cl C e r) m fun d m1 => ∃ w, enmW m1 d = some w ∧ Q w m1 := by
  simp only [evi, wp_bnd', wp_optM']
@[simp] theorem x_fr {t : Tg} {i : It} {b : Ss} {Q : Fl → Sto → Prop} : wp (ex cl C (.fr t i b) r) m Q ↔ wp (evi cl C i r) m fun w m1 => wp (forW (forB cl C t b) w r) m1 Q := by
  simp only [ex, wp_bnd']
  rfl
@[simp] theorem lcW_its {one : D → M (Option D)} {xs : List D} : lcW one (.its xs) = lcL one xs := rfl
@[simp] theorem forW_its {body : D → Env → M Fl} {xs : List D} {r : Env} : forW body (.its xs) r = forL body xs r := rfl
@[simp] theorem forB_x {t : Tg} {b : Ss} {x : D} {Q : Fl → Sto → Prop} : wp (forB cl C t b x r) m Q ↔ wp (asT cl C t x r) m fun r2 m1 => wp (exs cl C b r2) m1 Q := by
  unfold forB
  simp only [wp_bnd']
@[simp] theorem lcO_x {t : Tg} {c : Es} {e : E} {x : D} {Q : Option D → Sto → Prop} : wp (lcO cl C t c e r x) m Q ↔ wp (asT cl C t x (wipeD r t.slots)) m fun r1 m1 => wp (evA1 cl C c r1) m1 fun k m2 => if k = true then wp (ev cl C e r1) m2 fun d m3 => Q (some d) m3 else Q none m2 := by
  unfold lcO
  simp only [wp_bnd', wp_ite', wp_ret']
@[simp] theorem sq_tup {xs : List D} : seqW m (.tup xs) = some (.its xs) := rfl
@[simp] theorem sq_lst {xs : List D} : seqW m (.lst xs) = some (.its xs) := rfl
theorem sq_ref {n : Nat} {xs : List D} (h : m[n]? = some (.lst xs)) : seqW m (.ref n) = some (.live n) := by
  show (match m[n]? with
    | some (Cell.lst _) => some (Wk.live n)
    | some (Cell.tup xs) => some (Wk.its xs)
    | some (Cell.fdc ks _) => some (Wk.its (ks.map keyD))
    | _ => none) = _
  rw [h]
theorem sq_tupc {n : Nat} {xs : List D} (h : m[n]? = some (.tup xs)) : seqW m (.ref n) = some (.its xs) := by
  show (match m[n]? with
    | some (Cell.lst _) => some (Wk.live n)
    | some (Cell.tup xs) => some (Wk.its xs)
    | some (Cell.fdc ks _) => some (Wk.its (ks.map keyD))
    | _ => none) = _
  rw [h]
theorem wp_forR {body : D → Env → M Fl} {Q : Fl → Sto → Prop} {n : Nat} {xs : List D} (P : List D → Env → Sto → Prop) (hP : ∀ rest r m, P rest r m → m[n]? = some (.lst xs)) (hs : ∀ x rest r m, P (x :: rest) r m → wp (body x r) m (loopQ Q (P rest))) (he : ∀ r m, P [] r m → Q (.nx r) m) :
    ∀ (k i : Nat) (r : Env) (m : Sto), i ≤ xs.length → xs.length < k + i → P (xs.drop i) r m → wp (forR body n k i r) m Q
  | 0, i, r, m, hl, hk, h => by omega
  | k + 1, i, r, m, hl, hk, h => by
    have hm := hP _ _ _ h
    unfold wp forR
    simp only [hm]
    by_cases hi : i < xs.length
    · have ei : xs[i]? = some xs[i] := by simp [hi]
      simp only [ei]
      rw [List.drop_eq_getElem_cons hi] at h
      have := hs _ _ _ _ h
      refine (wp_bnd (wp_mono this fun f m1 q => ?_) : wp (M.bnd _ _) m Q)
      cases f with
      | nx r1 => exact wp_forR P hP hs he k (i + 1) r1 m1 (by omega) (by omega) q
      | ct r1 => exact wp_forR P hP hs he k (i + 1) r1 m1 (by omega) (by omega) q
      | bk r1 => exact wp_ret q
      | rt d => exact wp_ret q
    · have ei : xs[i]? = none := by simp; omega
      simp only [ei]
      rw [List.drop_eq_nil_of_le (by omega)] at h
      exact ⟨_, _, rfl, he r m h⟩
/-- a comprehension whose turns leave the store -/
theorem lcL_map {one : D → M (Option D)} {f : D → D} : ∀ {xs : List D}, (∀ x ∈ xs, one x m = .ok (some (f x)) m) → lcL one xs m = .ok (xs.map f) m
  | [], _ => rfl
  | x :: xs, h => by
    simp only [lcL, M.bnd, h x List.mem_cons_self, lcL_map (f := f) fun y hy => h y (List.mem_cons_of_mem _ hy), M.ret, List.map_cons]
end
section
variable {m : Sto}
@[simp] theorem lc_n {one : D → M (Option D)} {Q : List D → Sto → Prop} : wp (lcL one []) m Q ↔ Q [] m := by simp only [lcL, wp_ret']
@[simp] theorem lc_c {one : D → M (Option D)} {x : D} {xs : List D} {Q : List D → Sto → Prop} : wp (lcL one (x :: xs)) m Q ↔ wp (one x) m fun o m1 => wp (lcL one xs) m1 fun r m2 => Q (match o with
    | some d => d :: r
    | none => r) m2 := by
  simp only [lcL, wp_bnd', wp_ret']
  all_goals exact wp_congr fun o m1 => wp_congr fun r m2 => by cases o <;> rfl
/-- equations as total runs -/
theorem wp_eq {α : Type} {x : M α} {m' : Sto} {a : α} (h : wp x m fun b m2 => b = a ∧ m2 = m') : x m = .ok a m' := by
  obtain ⟨b, m2, e, rfl, rfl⟩ := h
  exact e
theorem eq_wp {α : Type} {x : M α} {m' : Sto} {a : α} {Q : α → Sto → Prop} (e : x m = .ok a m') : wp x m Q ↔ Q a m' := by
  unfold wp
  rw [e]
  exact ⟨fun ⟨_, _, h, q⟩ => by cases h; exact q, fun q => ⟨_, _, rfl, q⟩⟩
end
section
variable {m : Sto}
@[simp] theorem m_get2 {d : D} {ds : List D} {Q : D → Sto → Prop} : wp (metM .get2 d ds) m Q ↔ ∃ r, metD m .get2 d ds = some r ∧ Q r m := by
  have : metM .get2 d ds = optM fun m => metD m .get2 d ds := by
    funext m; unfold metM optM; dsimp only; cases metD m .get2 d ds <;> rfl
  rw [this, wp_optM']
theorem m_app {n : Nat} {xs : List D} {x : D} {Q : D → Sto → Prop} (h : m[n]? = some (.lst xs)) (hl : xs.length < sizeLine) : wp (metM .append (.ref n) [x]) m Q ↔ Q .non (m.set n (.lst (xs ++ [x]))) := by
  have : metM .append (.ref n) [x] m = .ok .non (m.set n (.lst (xs ++ [x]))) := by
    unfold metM appD; simp only [h, if_pos hl]
  exact ⟨fun ⟨_, _, e, q⟩ => by rw [this] at e; cases e; exact q, fun q => ⟨_, _, this, q⟩⟩
end
end Mp
end
section -- Pk05
set_option maxRecDepth 100000
set_option Elab.async false
namespace Pk05
open PySem L2 Mp
/- 0 is_whole: value -/
def b0 : Ss :=
  (.c (.ret (.and (.c (.isi (.loc 0) .int) (.c (.not (.isi (.loc 0) .bool)) .n)))) .n)
def f0 : Fn := ⟨1, 1, [], b0⟩
/- 1 is_variable: value -/
def b1 : Ss :=
  (.c (.ret (.and (.c (.isi (.loc 0) .str) (.c (.cmp .In (.loc 0) (.glo 0)) .n)))) .n)
def f1 : Fn := ⟨1, 1, [], b1⟩
/- 2 is_kinded: value deep each -/
def b2 : Ss :=
  (.c (.iff (.or (.c (.cmp .Eq (.loc 1) (.cst (.int 0))) (.c (.not (.isi (.loc 0) .tup)) (.c (.cmp .Eq (.loc 0) (.tup .n)) (.c (.not (.isi (.sub (.loc 0) (.cst (.int 0))) .str)) .n))))) (.c (.ret (.cst (.bl false))) .n) .n) (.c (.iff (.cmp .Eq (.sub (.loc 0) (.cst (.int 0))) (.cst (.str "var"))) (.c (.ret (.and (.c (.cmp .Eq (.blt .len (.c (.loc 0) .n)) (.cst (.int 2))) (.c (.call 1 (.c (.sub (.loc 0) (.cst (.int 1))) .n)) .n)))) .n) .n) (.c (.iff (.cmp .NotEq (.blt .len (.c (.loc 0) .n)) (.met .get2 (.glo 1) (.c (.sub (.loc 0) (.cst (.int 0))) (.c (.cst (.int 0)) .n)))) (.c (.ret (.cst (.bl false))) .n) .n) (.c (.ret (.blt .all (.c (.lc (.nm 2) (.seq (.sli (.loc 0) (.so (.cst (.int 1))) .no)) .n (.call 2 (.c (.loc 2) (.c (.bin .Sub (.loc 1) (.cst (.int 1))) .n)))) .n))) .n))))
def f2 : Fn := ⟨3, 2, [(.int 100)], b2⟩
/- 3 is_named: value sign -/
def b3 : Ss :=
  (.c (.iff (.or (.c (.not (.isi (.loc 0) .str)) (.c (.not (.chn .LtE .LtE (.cst (.int 1)) (.blt .len (.c (.loc 0) .n)) (.glo 5))) (.c (.cmp .In (.loc 0) (.glo 9)) .n)))) (.c (.ret (.cst (.bl false))) .n) .n) (.c (.ret (.and (.c (.cmp .In (.sub (.loc 0) (.cst (.int 0))) (.glo 7)) (.c (.blt .all (.c (.lc (.nm 1) (.seq (.loc 0)) .n (.cmp .In (.loc 1) (.bin .Add (.glo 7) (.glo 8)))) .n)) .n)))) .n))
def f3 : Fn := ⟨2, 1, [], b3⟩
/- 4 is_element: sign value kind_deep -/
def b4 : Ss :=
  (.c (.iff (.cmp .Eq (.loc 0) (.cst (.str "n"))) (.c (.ret (.call 3 (.c (.loc 1) .n))) .n) .n) (.c (.iff (.cmp .Eq (.loc 0) (.cst (.str "k"))) (.c (.ret (.call 2 (.c (.loc 1) (.c (.loc 2) .n)))) .n) .n) (.c (.iff (.cmp .Eq (.loc 0) (.cst (.str "s"))) (.c (.ret (.and (.c (.isi (.loc 1) .str) (.c (.cmp .In (.loc 1) (.glo 3)) .n)))) .n) .n) (.c (.ret (.and (.c (.call 0 (.c (.loc 1) .n)) (.c (.cmp .Lt (.blt .abs (.c (.loc 1) .n)) (.bin .Pow (.bin .Pow (.cst (.int 10)) (.cst (.int 50))) (.cst (.int 8)))) .n)))) .n))))
def f4 : Fn := ⟨3, 3, [], b4⟩
/- 5 wrong_by: value deep kind_deep index sign part found -/
def b5 : Ss :=
  (.c (.iff (.or (.c (.cmp .Eq (.loc 1) (.cst (.int 0))) (.c (.not (.isi (.loc 0) .tup)) (.c (.cmp .Eq (.loc 0) (.tup .n)) (.c (.not (.isi (.sub (.loc 0) (.cst (.int 0))) .str)) .n))))) (.c (.ret (.lst (.c (.tup .n) .n))) .n) .n) (.c (.iff (.or (.c (.cmp .NotIn (.sub (.loc 0) (.cst (.int 0))) (.glo 4)) (.c (.cmp .NotEq (.blt .len (.c (.loc 0) .n)) (.bin .Add (.cst (.int 1)) (.blt .len (.c (.sub (.glo 4) (.sub (.loc 0) (.cst (.int 0)))) .n)))) .n))) (.c (.ret (.lst (.c (.tup .n) .n))) .n) .n) (.c (.fr (.tp (.c (.nm 3) (.c (.nm 4) .n))) (.enm (.sub (.glo 4) (.sub (.loc 0) (.cst (.int 0))))) (.c (.asg (.nm 5) (.sub (.loc 0) (.bin .Add (.loc 3) (.cst (.int 1))))) (.c (.asg (.nm 6) (.ite (.cmp .Eq (.loc 4) (.cst (.str "t"))) (.call 5 (.c (.loc 5) (.c (.bin .Sub (.loc 1) (.cst (.int 1))) (.c (.loc 2) .n)))) (.lst .n))) (.c (.iff (.cmp .NotEq (.loc 6) (.lst .n)) (.c (.ret (.lst (.c (.tst (.c (.bin .Add (.loc 3) (.cst (.int 1))) (.c (.sub (.loc 6) (.cst (.int 0))) .n)) [false, true]) .n))) .n) .n) (.c (.iff (.and (.c (.cmp .NotEq (.loc 4) (.cst (.str "t"))) (.c (.not (.call 4 (.c (.loc 4) (.c (.loc 5) (.c (.loc 2) .n))))) .n))) (.c (.ret (.lst (.c (.tup (.c (.bin .Add (.loc 3) (.cst (.int 1))) .n)) .n))) .n) .n) .n))))) (.c (.ret (.lst .n)) .n))))
def f5 : Fn := ⟨7, 3, [], b5⟩
/- 6 wrong_in_term: value -/
def b6 : Ss :=
  (.c (.ret (.call 5 (.c (.loc 0) (.c (.glo 6) (.c (.glo 2) .n))))) .n)
def f6 : Fn := ⟨1, 1, [], b6⟩
/- 7 subterms: term index sign -/
def b7 : Ss :=
  (.c (.ret (.lc (.tp (.c (.nm 1) (.c (.nm 2) .n))) (.enm (.sub (.glo 4) (.sub (.loc 0) (.cst (.int 0))))) (.c (.cmp .Eq (.loc 2) (.cst (.str "t"))) .n) (.tup (.c (.bin .Add (.loc 1) (.cst (.int 1))) (.c (.sub (.loc 0) (.bin .Add (.loc 1) (.cst (.int 1)))) .n))))) .n)
def f7 : Fn := ⟨3, 1, [], b7⟩
/- 8 count_parts: term _ part -/
def b8 : Ss :=
  (.c (.ret (.bin .Add (.cst (.int 1)) (.blt .sum (.c (.lc (.tp (.c (.nm 1) (.c (.nm 2) .n))) (.seq (.call 7 (.c (.loc 0) .n))) .n (.call 8 (.c (.loc 2) .n))) .n)))) .n)
def f8 : Fn := ⟨3, 1, [], b8⟩
/- 9 depth_by: term _ part -/
def b9 : Ss :=
  (.c (.ret (.bin .Add (.cst (.int 1)) (.blt .max (.c (.bin .Add (.lst (.c (.cst (.int 0)) .n)) (.lc (.tp (.c (.nm 1) (.c (.nm 2) .n))) (.seq (.call 7 (.c (.loc 0) .n))) .n (.call 9 (.c (.loc 2) .n)))) .n)))) .n)
def f9 : Fn := ⟨3, 1, [], b9⟩
/- 10 part_by: term path here index found at part -/
def b10 : Ss :=
  (.c (.asg (.nm 2) (.loc 0)) (.c (.fr (.nm 3) (.seq (.loc 1)) (.c (.asg (.nm 4) (.lc (.tp (.c (.nm 5) (.c (.nm 6) .n))) (.seq (.call 7 (.c (.loc 2) .n))) (.c (.and (.c (.call 0 (.c (.loc 3) .n)) (.c (.cmp .Eq (.loc 5) (.loc 3)) .n))) .n) (.loc 6))) (.c (.iff (.cmp .Eq (.loc 4) (.lst .n)) (.c (.ret (.lst .n)) .n) .n) (.c (.asg (.nm 2) (.sub (.loc 4) (.cst (.int 0)))) .n)))) (.c (.ret (.lst (.c (.loc 2) .n))) .n)))
def f10 : Fn := ⟨7, 2, [], b10⟩
/- 11 bound_in: term index -/
def b11 : Ss :=
  (.c (.iff (.or (.c (.and (.c (.cmp .Eq (.sub (.loc 0) (.cst (.int 0))) (.cst (.str "fn"))) (.c (.cmp .Eq (.loc 1) (.cst (.int 3))) .n))) (.c (.and (.c (.cmp .Eq (.sub (.loc 0) (.cst (.int 0))) (.cst (.str "let"))) (.c (.cmp .Eq (.loc 1) (.cst (.int 3))) .n))) .n))) (.c (.ret (.tup (.c (.sub (.loc 0) (.cst (.int 1))) .n))) .n) .n) (.c (.iff (.and (.c (.cmp .Eq (.sub (.loc 0) (.cst (.int 0))) (.cst (.str "case"))) (.c (.cmp .In (.loc 1) (.tup (.c (.cst (.int 3)) (.c (.cst (.int 5)) .n)))) .n))) (.c (.ret (.tup (.c (.sub (.loc 0) (.bin .Sub (.loc 1) (.cst (.int 1)))) .n))) .n) .n) (.c (.ret (.tup .n)) .n)))
def f11 : Fn := ⟨2, 2, [], b11⟩
/- 12 free_in: term found index part name -/
def b12 : Ss :=
  (.c (.iff (.cmp .Eq (.sub (.loc 0) (.cst (.int 0))) (.cst (.str "name"))) (.c (.ret (.lck (.dspc (.sub (.loc 0) (.cst (.int 1))) (.cst (.bl true))))) .n) .n) (.c (.asg (.nm 1) (.dsm [] [])) (.c (.fr (.tp (.c (.nm 2) (.c (.nm 3) .n))) (.seq (.call 7 (.c (.loc 0) .n))) (.c (.fr (.nm 4) (.seq (.call 12 (.c (.loc 3) .n))) (.c (.iff (.cmp .NotIn (.loc 4) (.call 11 (.c (.loc 0) (.c (.loc 2) .n)))) (.c (.asg (.sb (.loc 1) (.loc 4)) (.cst (.bl true))) .n) .n) .n)) .n)) (.c (.ret (.lck (.loc 1))) .n))))
def f12 : Fn := ⟨5, 1, [], b12⟩
/- 13 check_term: value found -/
def b13 : Ss :=
  (.c (.asg (.nm 1) (.call 6 (.c (.loc 0) .n))) (.c (.iff (.cmp .NotEq (.loc 1) (.lst .n)) (.c (.rai 1 (.c (.sub (.loc 1) (.cst (.int 0))) .n)) .n) .n) .n))
def f13 : Fn := ⟨2, 1, [], b13⟩
/- 14 parts_of: term -/
def b14 : Ss :=
  (.c (.exp (.call 13 (.c (.loc 0) .n))) (.c (.ret (.call 8 (.c (.loc 0) .n))) .n))
def f14 : Fn := ⟨1, 1, [], b14⟩
/- 15 depth_of: term -/
def b15 : Ss :=
  (.c (.exp (.call 13 (.c (.loc 0) .n))) (.c (.ret (.call 9 (.c (.loc 0) .n))) .n))
def f15 : Fn := ⟨1, 1, [], b15⟩
/- 16 free_names: term -/
def b16 : Ss :=
  (.c (.exp (.call 13 (.c (.loc 0) .n))) (.c (.ret (.blt .tuple (.c (.blt .sorted (.c (.call 12 (.c (.loc 0) .n)) .n)) .n))) .n))
def f16 : Fn := ⟨1, 1, [], b16⟩
/- 17 part_at: term path found -/
def b17 : Ss :=
  (.c (.exp (.call 13 (.c (.loc 0) .n))) (.c (.asg (.nm 2) (.ite (.isi (.loc 1) .tup) (.call 10 (.c (.loc 0) (.c (.loc 1) .n))) (.lst .n))) (.c (.ret (.ite (.cmp .NotEq (.loc 2) (.lst .n)) (.sub (.loc 2) (.cst (.int 0))) (.cst .non))) .n)))
def f17 : Fn := ⟨3, 2, [], b17⟩
/- 18 _law_well: _law_script _law_turn _law_mixed _law_cell _law_own -/
def b18 : Ss :=
  (.c (.asg (.nm 2) (.bin .Add (.cst (.int 700027)) (.bin .Mult (.cst (.int 7717)) (.loc 1)))) (.c (.fr (.nm 3) (.seq (.sli (.loc 0) .no (.so (.cst (.int 12))))) (.c (.asg (.nm 2) (.bin .Mod (.blt .int (.c (.bin .Add (.bin .Add (.bin .Mult (.loc 2) (.cst (.int 48611))) (.bin .Mod (.blt .int (.c (.loc 3) .n)) (.cst (.int 2147483629)))) (.cst (.int 5))) .n)) (.cst (.int 2147483587)))) .n)) (.c (.asg (.nm 4) (.ite (.cmp .Lt (.loc 1) (.blt .len (.c (.loc 0) .n))) (.blt .int (.c (.sub (.loc 0) (.loc 1)) .n)) (.cst (.int 0)))) (.c (.asg (.nm 2) (.bin .Mod (.blt .int (.c (.bin .Add (.bin .Add (.bin .Mult (.loc 2) (.cst (.int 37))) (.bin .Mult (.bin .Mod (.blt .int (.c (.loc 4) .n)) (.cst (.int 2147483629))) (.cst (.int 30011)))) (.cst (.int 11))) .n)) (.cst (.int 2147483587)))) (.c (.ret (.lsm (.c (.ite (.or (.c (.cmp .Lt (.loc 4) (.cst (.int 0))) (.c (.cmp .GtE (.loc 4) (.bin .Pow (.cst (.int 10)) (.cst (.int 14)))) .n))) (.blt .abs (.c (.loc 4) .n)) (.cst (.int 0))) (.c (.loc 2) (.c (.cst (.int 0)) (.c (.cst (.int 2)) .n)))))) .n)))))
def f18 : Fn := ⟨5, 2, [], b18⟩
/- 19 _law_draw: _law_well_here _law_many _law_figure -/
def b19 : Ss :=
  (.c (.iff (.cmp .Gt (.sub (.loc 0) (.cst (.int 0))) (.cst (.int 0))) (.c (.asg (.tp (.c (.sb (.loc 0) (.cst (.int 0))) (.c (.nm 2) .n))) (.blt .divmod (.c (.sub (.loc 0) (.cst (.int 0))) (.c (.loc 1) .n)))) (.c (.ret (.loc 2)) .n)) .n) (.c (.asg (.sb (.loc 0) (.cst (.int 2))) (.bin .Add (.sub (.loc 0) (.cst (.int 2))) (.cst (.int 1)))) (.c (.asg (.sb (.loc 0) (.cst (.int 1))) (.bin .Mod (.blt .int (.c (.bin .Add (.bin .Add (.bin .Mult (.sub (.loc 0) (.cst (.int 1))) (.cst (.int 39373))) (.bin .Mult (.bin .Mult (.cst (.int 3)) (.sub (.loc 0) (.cst (.int 2)))) (.sub (.loc 0) (.cst (.int 2))))) (.cst (.int 1))) .n)) (.cst (.int 2147483587)))) (.c (.ret (.bin .Mod (.blt .int (.c (.bin .FloorDiv (.sub (.loc 0) (.cst (.int 1))) (.cst (.int 61))) .n)) (.loc 1))) .n))))
def f19 : Fn := ⟨3, 2, [], b19⟩
/- 20 _law_pick: _law_well_here _law_some -/
def b20 : Ss :=
  (.c (.ret (.sub (.loc 1) (.call 19 (.c (.loc 0) (.c (.blt .len (.c (.loc 1) .n)) .n))))) .n)
def f20 : Fn := ⟨2, 2, [], b20⟩
/- 21 _law_same: _law_one _law_two -/
def b21 : Ss :=
  (.c (.ret (.cmp .Eq (.blt .repr (.c (.loc 0) .n)) (.blt .repr (.c (.loc 1) .n)))) .n)
def f21 : Fn := ⟨2, 2, [], b21⟩
/- 22 _law_odd: _law_well_here _law_some _law_more _law_ends -/
def b22 : Ss :=
  (.c (.asg (.nm 1) (.tup (.c (.cst .non) (.c (.cst (.bl true)) (.c (.cst (.bl false)) (.c (.cst (.int 0)) (.c (.cst (.int 1)) (.c (.neg (.cst (.int 1))) (.c (.cst (.int 12)) (.c (.bin .Pow (.cst (.int 10)) (.cst (.int 30))) (.c (.cst (.str "")) (.c (.cst (.str "num")) (.c (.cst (.str "a")) (.c (.cst (.str "x")) (.c (.cst (.str "let")) (.c (.cst (.str "unit")) (.c (.cst (.str "==")) (.c (.tup .n) (.c (.tup (.c (.cst (.int 0)) .n)) (.c (.tup (.c (.cst (.str "num")) .n)) .n)))))))))))))))))))) (.c (.asg (.nm 2) (.tup (.c (.tup (.c (.cst (.str "var")) (.c (.cst (.str "a")) .n))) (.c (.tup (.c (.cst (.str "var")) (.c (.cst (.str "d")) .n))) (.c (.tup (.c (.cst (.str "var")) (.c (.tup (.c (.cst (.str "var")) (.c (.cst (.str "a")) .n))) .n))) (.c (.tup (.c (.cst (.str "list")) .n)) (.c (.tup (.c (.cst (.str "list")) (.c (.tup (.c (.cst (.str "num")) .n)) (.c (.tup (.c (.cst (.str "num")) .n)) .n)))) (.c (.tup (.c (.cst (.str "unit")) (.c (.cst (.int 1)) .n))) .n)))))))) (.c (.asg (.nm 3) (.tup (.c (.tup (.c (.cst (.str "pair")) (.c (.tup (.c (.cst (.str "num")) .n)) .n))) (.c (.tup (.c (.cst (.str "name")) (.c (.cst (.str "x")) .n))) (.c (.tup (.c (.cst (.str "name")) (.c (.cst (.str "let")) .n))) (.c (.tup (.c (.cst (.str "number")) (.c (.cst (.bl true)) .n))) (.c (.tup (.c (.cst (.str "left")) (.c (.cst (.int 1)) .n))) (.c (.lst .n) (.c (.lst (.c (.cst (.str "num")) .n)) (.c (.cst (.dct [] [])) (.c (.cst (.str "1x")) .n))))))))))) (.c (.ret (.call 20 (.c (.loc 0) (.c (.bin .Add (.bin .Add (.bin .Add (.loc 1) (.loc 2)) (.loc 3)) (.tup (.c (.tup (.c (.cst (.str "fun")) (.c (.tup (.c (.cst (.str "num")) .n)) (.c (.tup (.c (.cst (.str "unit")) .n)) .n)))) (.c (.cst (.str "A")) (.c (.tup (.c (.tup (.c (.cst (.str "unit")) .n)) .n)) (.c (.tup (.c (.tup .n) (.c (.tup .n) .n))) .n)))))) .n)))) .n))))
def f22 : Fn := ⟨4, 1, [], b22⟩
/- 23 _law_number: _law_well_here _law_branch _law_great -/
def b23 : Ss :=
  (.c (.asg (.nm 1) (.call 19 (.c (.loc 0) (.c (.cst (.int 9)) .n)))) (.c (.iff (.and (.c (.cmp .Eq (.loc 1) (.cst (.int 8))) (.c (.cmp .Gt (.sub (.loc 0) (.cst (.int 3))) (.cst (.int 0))) .n))) (.c (.asg (.sb (.loc 0) (.cst (.int 3))) (.bin .Sub (.sub (.loc 0) (.cst (.int 3))) (.cst (.int 1)))) (.c (.asg (.nm 2) (.bin .Pow (.bin .Pow (.cst (.int 10)) (.cst (.int 60))) (.cst (.int 5)))) (.c (.ret (.call 20 (.c (.loc 0) (.c (.tup (.c (.bin .Pow (.cst (.int 10)) (.cst (.int 20))) (.c (.bin .Sub (.cst (.int 1)) (.bin .Pow (.cst (.int 10)) (.cst (.int 20)))) (.c (.cst (.int 65536)) (.c (.neg (.cst (.int 4096))) (.c (.loc 2) (.c (.bin .Mult (.neg (.cst (.int 7))) (.loc 2)) (.c (.bin .Add (.bin .Pow (.cst (.int 10)) (.cst (.int 15))) (.cst (.int 7))) .n)))))))) .n)))) .n))) .n) (.c (.ret (.ite (.cmp .Lt (.loc 1) (.cst (.int 4))) (.call 19 (.c (.loc 0) (.c (.cst (.int 4)) .n))) (.bin .Sub (.call 19 (.c (.loc 0) (.c (.cst (.int 39)) .n))) (.cst (.int 19))))) .n)))
def f23 : Fn := ⟨3, 1, [], b23⟩
/- 24 _law_kind: _law_well_here _law_deep _law_which _law_branch _law_word _law_one -/
def b24 : Ss :=
  (.c (.asg (.nm 3) (.ite (.cmp .Gt (.loc 1) (.cst (.int 1))) (.call 19 (.c (.loc 0) (.c (.cst (.int 12)) .n))) (.call 19 (.c (.loc 0) (.c (.cst (.int 4)) .n))))) (.c (.iff (.cmp .Lt (.loc 3) (.cst (.int 4))) (.c (.iff (.and (.c (.cmp .Lt (.loc 3) (.cst (.int 2))) (.c (.cmp .Lt (.loc 2) (.cst (.int 2))) .n))) (.c (.ret (.tup (.c (.cst (.str "var")) (.c (.call 20 (.c (.loc 0) (.c (.tup (.c (.cst (.str "a")) (.c (.cst (.str "b")) (.c (.cst (.str "c")) .n)))) .n))) .n)))) .n) .n) (.c (.ret (.ite (.cmp .Eq (.loc 3) (.cst (.int 3))) (.tup (.c (.cst (.str "unit")) .n)) (.tup (.c (.cst (.str "num")) .n)))) .n)) .n) (.c (.asg (.nm 4) (.sub (.tup (.c (.cst (.str "list")) (.c (.cst (.str "list")) (.c (.cst (.str "pair")) (.c (.cst (.str "pair")) (.c (.cst (.str "either")) (.c (.cst (.str "either")) (.c (.cst (.str "fun")) (.c (.cst (.str "fun")) .n))))))))) (.bin .Sub (.loc 3) (.cst (.int 4))))) (.c (.asg (.nm 5) (.call 24 (.c (.loc 0) (.c (.bin .Sub (.loc 1) (.cst (.int 1))) (.c (.loc 2) .n))))) (.c (.iff (.cmp .Eq (.loc 4) (.cst (.str "list"))) (.c (.ret (.tup (.c (.loc 4) (.c (.loc 5) .n)))) .n) .n) (.c (.iff (.and (.c (.cmp .Eq (.loc 4) (.cst (.str "fun"))) (.c (.cmp .In (.loc 2) (.tup (.c (.cst (.int 1)) (.c (.cst (.int 2)) .n)))) .n))) (.c (.asg (.nm 4) (.cst (.str "pair"))) .n) .n) (.c (.ret (.tup (.c (.loc 4) (.c (.loc 5) (.c (.call 24 (.c (.loc 0) (.c (.bin .Sub (.loc 1) (.cst (.int 1))) (.c (.loc 2) .n)))) .n))))) .n)))))))
def f24 : Fn := ⟨6, 3, [], b24⟩
/- 25 _law_forms: _law_word _law_found -/
def b25 : Ss :=
  (.c (.asg (.nm 1) (.dsm [.inr "name", .inr "fn", .inr "call", .inr "let", .inr "unit", .inr "number", .inr "plus"] [(.str "n"), (.str "nkt"), (.str "tt"), (.str "ntt"), (.str ""), (.str "i"), (.str "tt")])) (.c (.exp (.met .update (.loc 1) (.c (.cst (.dct [.inr "times", .inr "minus", .inr "is", .inr "pair", .inr "first", .inr "second", .inr "left"] [(.str "tt"), (.str "t"), (.str "stt"), (.str "tt"), (.str "t"), (.str "t"), (.str "tk")])) .n))) (.c (.exp (.met .update (.loc 1) (.c (.cst (.dct [.inr "right", .inr "case", .inr "nil", .inr "cons", .inr "fold"] [(.str "kt"), (.str "tntnt"), (.str "k"), (.str "tt"), (.str "ttt")])) .n))) (.c (.ret (.met .get1 (.loc 1) (.c (.loc 0) .n))) .n))))
def f25 : Fn := ⟨2, 1, [], b25⟩
/- 26 _law_is_name: _law_thing _law_words _law_sign -/
def b26 : Ss :=
  (.c (.iff (.or (.c (.not (.isi (.loc 0) .str)) (.c (.not (.chn .LtE .LtE (.cst (.int 1)) (.blt .len (.c (.loc 0) .n)) (.cst (.int 8)))) (.c (.cmp .NotIn (.sub (.loc 0) (.cst (.int 0))) (.cst (.str "abcdefghijklmnopqrstuvwxyz"))) .n)))) (.c (.ret (.cst (.bl false))) .n) .n) (.c (.asg (.nm 1) (.tup (.c (.cst (.str "fn")) (.c (.cst (.str "let")) (.c (.cst (.str "in")) (.c (.cst (.str "case")) (.c (.cst (.str "unit")) (.c (.cst (.str "num")) (.c (.cst (.str "list")) (.c (.cst (.str "nil")) (.c (.cst (.str "cons")) (.c (.cst (.str "fold")) (.c (.cst (.str "first")) (.c (.cst (.str "second")) (.c (.cst (.str "left")) .n))))))))))))))) (.c (.iff (.or (.c (.cmp .In (.loc 0) (.loc 1)) (.c (.cmp .Eq (.loc 0) (.cst (.str "right"))) .n))) (.c (.ret (.cst (.bl false))) .n) .n) (.c (.ret (.cmp .Eq (.lc (.nm 2) (.seq (.loc 0)) (.c (.cmp .NotIn (.loc 2) (.cst (.str "abcdefghijklmnopqrstuvwxyz0123456789"))) .n) (.loc 2)) (.lst .n))) .n))))
def f26 : Fn := ⟨3, 1, [], b26⟩
/- 27 _law_names: _law_well_here _law_one _law_two _law_three _law_four _law_letter _law_other -/
def b27 : Ss :=
  (.c (.asg (.tp (.c (.nm 5) (.c (.nm 6) .n))) (.tup (.c (.call 20 (.c (.loc 0) (.c (.cst (.str "abcdefghijklmnopqrstuvwxyz")) .n))) (.c (.call 20 (.c (.loc 0) (.c (.cst (.str "xyzuvwlfabc")) .n))) .n)))) (.c (.asg (.nm 1) (.bin .Add (.loc 5) (.call 20 (.c (.loc 0) (.c (.tup (.c (.cst (.str "")) (.c (.cst (.str "1")) (.c (.cst (.str "x")) (.c (.cst (.str "q9")) (.c (.cst (.str "let0")) .n)))))) .n))))) (.c (.asg (.nm 2) (.bin .Add (.loc 1) (.call 20 (.c (.loc 0) (.c (.tup (.c (.cst (.str "0")) (.c (.cst (.str "a")) (.c (.cst (.str "z7")) .n)))) .n))))) (.c (.asg (.nm 3) (.ite (.cmp .Eq (.call 19 (.c (.loc 0) (.c (.cst (.int 2)) .n))) (.cst (.int 0))) (.sli (.bin .Add (.loc 6) (.cst (.str "01234567"))) .no (.so (.cst (.int 8)))) (.loc 6))) (.c (.asg (.nm 4) (.bin .Add (.bin .Add (.loc 6) (.loc 5)) (.cst (.str "0")))) (.c (.ret (.lst (.c (.loc 1) (.c (.loc 2) (.c (.loc 3) (.c (.loc 4) .n)))))) .n))))))
def f27 : Fn := ⟨7, 1, [], b27⟩
/- 28 _law_leaf: _law_well_here _law_names_here _law_branch -/
def b28 : Ss :=
  (.c (.asg (.nm 2) (.call 19 (.c (.loc 0) (.c (.cst (.int 8)) .n)))) (.c (.iff (.cmp .Lt (.loc 2) (.cst (.int 4))) (.c (.ret (.tup (.c (.cst (.str "name")) (.c (.call 20 (.c (.loc 0) (.c (.loc 1) .n))) .n)))) .n) .n) (.c (.iff (.cmp .Lt (.loc 2) (.cst (.int 6))) (.c (.ret (.tup (.c (.cst (.str "number")) (.c (.call 23 (.c (.loc 0) .n)) .n)))) .n) .n) (.c (.ret (.ite (.cmp .Eq (.loc 2) (.cst (.int 6))) (.tup (.c (.cst (.str "unit")) .n)) (.tup (.c (.cst (.str "nil")) (.c (.call 24 (.c (.loc 0) (.c (.cst (.int 3)) (.c (.cst (.int 0)) .n)))) .n))))) .n))))
def f28 : Fn := ⟨3, 2, [], b28⟩
/- 29 _law_term: _law_well_here _law_deep _law_names_here _law_word _law_made _law_letter -/
def b29 : Ss :=
  (.c (.iff (.or (.c (.cmp .Eq (.loc 1) (.cst (.int 1))) (.c (.cmp .Eq (.call 19 (.c (.loc 0) (.c (.cst (.int 7)) .n))) (.cst (.int 0))) .n))) (.c (.ret (.call 28 (.c (.loc 0) (.c (.loc 2) .n)))) .n) .n) (.c (.asg (.nm 3) (.call 20 (.c (.loc 0) (.c (.tup (.c (.cst (.str "fn")) (.c (.cst (.str "call")) (.c (.cst (.str "let")) (.c (.cst (.str "plus")) (.c (.cst (.str "minus")) (.c (.cst (.str "times")) (.c (.cst (.str "pair")) (.c (.cst (.str "first")) (.c (.cst (.str "second")) (.c (.cst (.str "left")) (.c (.cst (.str "right")) (.c (.cst (.str "case")) (.c (.cst (.str "is")) (.c (.cst (.str "cons")) (.c (.cst (.str "fold")) (.c (.cst (.str "fn")) (.c (.cst (.str "let")) (.c (.cst (.str "case")) (.c (.cst (.str "call")) (.c (.cst (.str "cons")) .n))))))))))))))))))))) .n)))) (.c (.asg (.nm 4) (.lsm (.c (.loc 3) .n))) (.c (.fr (.nm 5) (.seq (.call 25 (.c (.loc 3) .n))) (.c (.iff (.cmp .Eq (.loc 5) (.cst (.str "t"))) (.c (.exp (.met .append (.loc 4) (.c (.call 29 (.c (.loc 0) (.c (.bin .Sub (.loc 1) (.cst (.int 1))) (.c (.loc 2) .n)))) .n))) .n) (.c (.iff (.cmp .Eq (.loc 5) (.cst (.str "n"))) (.c (.exp (.met .append (.loc 4) (.c (.call 20 (.c (.loc 0) (.c (.loc 2) .n))) .n))) .n) (.c (.exp (.met .append (.loc 4) (.c (.ite (.cmp .Eq (.loc 5) (.cst (.str "k"))) (.call 24 (.c (.loc 0) (.c (.cst (.int 3)) (.c (.cst (.int 0)) .n)))) (.call 20 (.c (.loc 0) (.c (.tup (.c (.cst (.str "<")) (.c (.cst (.str "<=")) (.c (.cst (.str "==")) .n)))) .n)))) .n))) .n)) .n)) .n)) (.c (.ret (.blt .tuple (.c (.loc 4) .n))) .n)))))
def f29 : Fn := ⟨6, 3, [], b29⟩
/- 30 _law_tall: _law_well_here _law_many _law_names_here _law_term_here _law_turn _law_way -/
def b30 : Ss :=
  (.c (.asg (.nm 3) (.call 28 (.c (.loc 0) (.c (.loc 2) .n)))) (.c (.fr (.nm 4) (.rg1 (.bin .Sub (.loc 1) (.cst (.int 1)))) (.c (.asg (.nm 5) (.ite (.cmp .Lt (.loc 4) (.cst (.int 20))) (.call 19 (.c (.loc 0) (.c (.cst (.int 5)) .n))) (.bin .Mod (.blt .int (.c (.loc 4) .n)) (.cst (.int 5))))) (.c (.iff (.cmp .Eq (.loc 5) (.cst (.int 0))) (.c (.asg (.nm 3) (.tup (.c (.cst (.str "minus")) (.c (.loc 3) .n)))) .n) (.c (.iff (.cmp .Eq (.loc 5) (.cst (.int 1))) (.c (.asg (.nm 3) (.tup (.c (.cst (.str "plus")) (.c (.tup (.c (.cst (.str "name")) (.c (.sub (.loc 2) (.cst (.int 0))) .n))) (.c (.loc 3) .n))))) .n) (.c (.iff (.cmp .Eq (.loc 5) (.cst (.int 2))) (.c (.asg (.nm 3) (.tup (.c (.cst (.str "let")) (.c (.sub (.loc 2) (.cst (.int 1))) (.c (.loc 3) (.c (.tup (.c (.cst (.str "name")) (.c (.sub (.loc 2) (.cst (.int 1))) .n))) .n)))))) .n) (.c (.asg (.nm 3) (.ite (.cmp .Eq (.loc 5) (.cst (.int 3))) (.tup (.c (.cst (.str "first")) (.c (.loc 3) .n))) (.tup (.c (.cst (.str "fold")) (.c (.tup (.c (.cst (.str "unit")) .n)) (.c (.loc 3) (.c (.tup (.c (.cst (.str "unit")) .n)) .n))))))) .n)) .n)) .n)) .n))) (.c (.ret (.loc 3)) .n)))
def f30 : Fn := ⟨6, 3, [], b30⟩
/- 31 _law_wide: _law_well_here _law_leaves _law_names_here _law_word _law_one -/
def b31 : Ss :=
  (.c (.iff (.cmp .Eq (.loc 1) (.cst (.int 1))) (.c (.ret (.call 28 (.c (.loc 0) (.c (.loc 2) .n)))) .n) .n) (.c (.asg (.nm 3) (.call 20 (.c (.loc 0) (.c (.tup (.c (.cst (.str "plus")) (.c (.cst (.str "pair")) (.c (.cst (.str "cons")) (.c (.cst (.str "call")) (.c (.cst (.str "times")) .n)))))) .n)))) (.c (.asg (.nm 4) (.call 31 (.c (.loc 0) (.c (.bin .FloorDiv (.loc 1) (.cst (.int 2))) (.c (.loc 2) .n))))) (.c (.ret (.tup (.c (.loc 3) (.c (.loc 4) (.c (.call 31 (.c (.loc 0) (.c (.bin .Sub (.loc 1) (.bin .FloorDiv (.loc 1) (.cst (.int 2)))) (.c (.loc 2) .n)))) .n))))) .n))))
def f31 : Fn := ⟨5, 3, [], b31⟩
/- 32 _law_walked: _law_term_here _law_path _law_bound _law_at _law_found _law_forms_here _law_inner -/
def b32 : Ss :=
  (.c (.asg (.tp (.c (.nm 4) (.c (.nm 5) .n))) (.tup (.c (.lst (.c (.tup (.c (.loc 1) (.c (.loc 0) (.c (.loc 2) .n)))) .n)) (.c (.call 25 (.c (.sub (.loc 0) (.cst (.int 0))) .n)) .n)))) (.c (.fr (.nm 3) (.rg2 (.cst (.int 1)) (.blt .len (.c (.loc 0) .n))) (.c (.iff (.cmp .NotEq (.sub (.loc 5) (.bin .Sub (.loc 3) (.cst (.int 1)))) (.cst (.str "t"))) (.c .cnt .n) .n) (.c (.asg (.nm 6) (.loc 2)) (.c (.iff (.and (.c (.cmp .In (.sub (.loc 0) (.cst (.int 0))) (.tup (.c (.cst (.str "fn")) (.c (.cst (.str "let")) .n)))) (.c (.cmp .Eq (.loc 3) (.cst (.int 3))) .n))) (.c (.asg (.nm 6) (.bin .Add (.loc 2) (.tup (.c (.sub (.loc 0) (.cst (.int 1))) .n)))) .n) (.c (.iff (.and (.c (.cmp .Eq (.sub (.loc 0) (.cst (.int 0))) (.cst (.str "case"))) (.c (.cmp .In (.loc 3) (.tup (.c (.cst (.int 3)) (.c (.cst (.int 5)) .n)))) .n))) (.c (.asg (.nm 6) (.bin .Add (.loc 2) (.tup (.c (.sub (.loc 0) (.bin .Sub (.loc 3) (.cst (.int 1)))) .n)))) .n) .n) .n)) (.c (.asg (.nm 4) (.bin .Add (.loc 4) (.call 32 (.c (.sub (.loc 0) (.loc 3)) (.c (.bin .Add (.loc 1) (.tup (.c (.loc 3) .n))) (.c (.loc 6) .n)))))) .n))))) (.c (.ret (.loc 4)) .n)))
def f32 : Fn := ⟨7, 3, [], b32⟩
/- 33 _law_free: _law_rows _law_names_here _law_path _law_part_here _law_bound -/
def b33 : Ss :=
  (.c (.asg (.nm 1) (.lsm .n)) (.c (.fr (.tp (.c (.nm 2) (.c (.nm 3) (.c (.nm 4) .n)))) (.seq (.loc 0)) (.c (.iff (.and (.c (.cmp .Eq (.sub (.loc 3) (.cst (.int 0))) (.cst (.str "name"))) (.c (.cmp .NotIn (.sub (.loc 3) (.cst (.int 1))) (.loc 4)) (.c (.cmp .NotIn (.sub (.loc 3) (.cst (.int 1))) (.loc 1)) .n)))) (.c (.exp (.met .append (.loc 1) (.c (.sub (.loc 3) (.cst (.int 1))) .n))) .n) .n) .n)) (.c (.ret (.blt .tuple (.c (.blt .sorted (.c (.loc 1) .n)) .n))) .n)))
def f33 : Fn := ⟨5, 1, [], b33⟩
/- 34 _law_part: _law_term_here _law_path _law_here _law_at -/
def b34 : Ss :=
  (.c (.iff (.not (.isi (.loc 1) .tup)) (.c (.ret (.lst .n)) .n) .n) (.c (.asg (.nm 2) (.loc 0)) (.c (.fr (.nm 3) (.seq (.loc 1)) (.c (.iff (.or (.c (.not (.isi (.loc 3) .int)) (.c (.isi (.loc 3) .bool) (.c (.not (.chn .LtE .Lt (.cst (.int 1)) (.loc 3) (.blt .len (.c (.loc 2) .n)))) .n)))) (.c (.ret (.lst .n)) .n) .n) (.c (.iff (.cmp .NotEq (.sub (.call 25 (.c (.sub (.loc 2) (.cst (.int 0))) .n)) (.bin .Sub (.loc 3) (.cst (.int 1)))) (.cst (.str "t"))) (.c (.ret (.lst .n)) .n) .n) (.c (.asg (.nm 2) (.sub (.loc 2) (.loc 3))) .n)))) (.c (.ret (.lst (.c (.loc 2) .n))) .n))))
def f34 : Fn := ⟨4, 2, [], b34⟩
/- 35 _law_other_path: _law_well_here _law_path _law_way -/
def b35 : Ss :=
  (.c (.asg (.nm 2) (.call 19 (.c (.loc 0) (.c (.cst (.int 9)) .n)))) (.c (.iff (.cmp .Lt (.loc 2) (.cst (.int 3))) (.c (.ret (.bin .Add (.loc 1) (.tup (.c (.call 19 (.c (.loc 0) (.c (.cst (.int 7)) .n))) .n)))) .n) .n) (.c (.iff (.cmp .Eq (.loc 2) (.cst (.int 3))) (.c (.ret (.sli (.loc 1) .no (.so (.neg (.cst (.int 1)))))) .n) .n) (.c (.iff (.cmp .Eq (.loc 2) (.cst (.int 4))) (.c (.ret (.blt .list (.c (.loc 1) .n))) .n) .n) (.c (.iff (.cmp .Eq (.loc 2) (.cst (.int 5))) (.c (.ret (.bin .Add (.loc 1) (.tup (.c (.bin .Sub (.neg (.cst (.int 1))) (.call 19 (.c (.loc 0) (.c (.cst (.int 3)) .n)))) .n)))) .n) .n) (.c (.iff (.cmp .Eq (.loc 2) (.cst (.int 6))) (.c (.ret (.bin .Add (.sli (.loc 1) .no (.so (.neg (.cst (.int 1))))) (.tup (.c (.cst (.bl true)) .n)))) .n) .n) (.c (.iff (.and (.c (.cmp .Eq (.loc 2) (.cst (.int 7))) (.c (.cmp .NotEq (.loc 1) (.tup .n)) .n))) (.c (.ret (.bin .Add (.bin .Add (.sli (.loc 1) .no (.so (.neg (.cst (.int 1))))) (.tup (.c (.bin .Add (.sub (.loc 1) (.neg (.cst (.int 1)))) (.cst (.int 1))) .n))) (.sli (.loc 1) (.so (.neg (.cst (.int 1)))) .no))) .n) .n) (.c (.ret (.call 22 (.c (.loc 0) .n))) .n))))))))
def f35 : Fn := ⟨3, 2, [], b35⟩
/- 36 _law_are_paths: _law_well_here _law_term_here _law_rows _law_begin _law_path _law_part_here _law_bound _law_here _law_other _law_found _law_shown -/
def b36 : Ss :=
  (.c (.asg (.nm 3) (.call 19 (.c (.loc 0) (.c (.blt .len (.c (.loc 2) .n)) .n)))) (.c (.fr (.tp (.c (.nm 4) (.c (.nm 5) (.c (.nm 6) .n)))) (.seq (.sli (.loc 2) (.so (.loc 3)) (.so (.bin .Add (.loc 3) (.cst (.int 6)))))) (.c (.asg (.nm 7) (.ite (.cmp .Eq (.call 19 (.c (.loc 0) (.c (.cst (.int 2)) .n))) (.cst (.int 0))) (.calk 17 .n (.c (.loc 4) (.c (.loc 1) .n)) [1, 0]) (.call 17 (.c (.loc 1) (.c (.loc 4) .n))))) (.c (.iff (.not (.call 21 (.c (.loc 7) (.c (.loc 5) .n)))) (.c (.ret (.cst (.bl false))) .n) .n) (.c (.asg (.nm 8) (.call 35 (.c (.loc 0) (.c (.loc 4) .n)))) (.c (.asg (.tp (.c (.nm 9) (.c (.nm 10) .n))) (.tup (.c (.call 34 (.c (.loc 1) (.c (.loc 8) .n))) (.c (.blt .repr (.c (.loc 8) .n)) .n)))) (.c (.iff (.or (.c (.not (.call 21 (.c (.call 17 (.c (.loc 1) (.c (.loc 8) .n))) (.c (.ite (.cmp .NotEq (.loc 9) (.lst .n)) (.sub (.loc 9) (.cst (.int 0))) (.cst .non)) .n)))) (.c (.cmp .NotEq (.blt .repr (.c (.loc 8) .n)) (.loc 10)) .n))) (.c (.ret (.cst (.bl false))) .n) .n) .n)))))) (.c (.ret (.cst (.bl true))) .n)))
def f36 : Fn := ⟨11, 3, [], b36⟩
/- 37 _law_is_counted: _law_well_here _law_term_here _law_rows _law_deep _law_free_here _law_inner _law_deep_inner _law_found _law_path _law_part_here _law_bound _law_row -/
def b37 : Ss :=
  (.c (.asg (.nm 2) (.call 32 (.c (.loc 1) (.c (.tup .n) (.c (.tup .n) .n))))) (.c (.asg (.nm 3) (.bin .Add (.blt .max (.c (.lc (.nm 11) (.seq (.loc 2)) .n (.blt .len (.c (.sub (.loc 11) (.cst (.int 0))) .n))) .n)) (.cst (.int 1)))) (.c (.asg (.nm 4) (.call 33 (.c (.loc 2) .n))) (.c (.iff (.not (.call 21 (.c (.lst (.c (.call 14 (.c (.loc 1) .n)) (.c (.call 15 (.c (.loc 1) .n)) (.c (.call 16 (.c (.loc 1) .n)) .n)))) (.c (.lst (.c (.blt .len (.c (.loc 2) .n)) (.c (.loc 3) (.c (.loc 4) .n)))) .n)))) (.c (.ret (.cst (.bl false))) .n) .n) (.c (.asg (.tp (.c (.nm 8) (.c (.nm 9) (.c (.nm 10) .n)))) (.sub (.loc 2) (.call 19 (.c (.loc 0) (.c (.blt .len (.c (.loc 2) .n)) .n))))) (.c (.asg (.nm 5) (.call 32 (.c (.loc 9) (.c (.tup .n) (.c (.tup .n) .n))))) (.c (.asg (.nm 6) (.bin .Add (.blt .max (.c (.lc (.nm 11) (.seq (.loc 5)) .n (.blt .len (.c (.sub (.loc 11) (.cst (.int 0))) .n))) .n)) (.cst (.int 1)))) (.c (.asg (.nm 7) (.lst (.c (.calk 14 .n (.c (.loc 9) .n) [0]) (.c (.calk 15 .n (.c (.loc 9) .n) [0]) (.c (.calk 16 .n (.c (.loc 9) .n) [0]) .n))))) (.c (.iff (.not (.call 21 (.c (.loc 7) (.c (.lst (.c (.blt .len (.c (.loc 5) .n)) (.c (.loc 6) (.c (.call 33 (.c (.loc 5) .n)) .n)))) .n)))) (.c (.ret (.cst (.bl false))) .n) .n) (.c (.ret (.and (.c (.call 36 (.c (.loc 0) (.c (.loc 1) (.c (.loc 2) .n)))) (.c (.call 21 (.c (.call 16 (.c (.loc 1) .n)) (.c (.loc 4) .n))) .n)))) .n))))))))))
def f37 : Fn := ⟨12, 2, [], b37⟩
/- 38 _law_bound_often: _law_well_here _law_term_here _law_names_here _law_turn _law_name _law_way -/
def b38 : Ss :=
  (.c (.fr (.nm 3) (.rg1 (.call 19 (.c (.loc 0) (.c (.cst (.int 4)) .n)))) (.c (.asg (.tp (.c (.nm 4) (.c (.nm 5) .n))) (.tup (.c (.call 20 (.c (.loc 0) (.c (.loc 2) .n))) (.c (.call 19 (.c (.loc 0) (.c (.cst (.int 4)) .n))) .n)))) (.c (.iff (.cmp .Eq (.loc 5) (.cst (.int 0))) (.c (.asg (.nm 1) (.tup (.c (.cst (.str "fn")) (.c (.loc 4) (.c (.call 24 (.c (.loc 0) (.c (.cst (.int 2)) (.c (.cst (.int 0)) .n)))) (.c (.loc 1) .n)))))) .n) (.c (.iff (.cmp .Eq (.loc 5) (.cst (.int 1))) (.c (.asg (.nm 1) (.tup (.c (.cst (.str "let")) (.c (.loc 4) (.c (.call 28 (.c (.loc 0) (.c (.loc 2) .n))) (.c (.loc 1) .n)))))) .n) (.c (.iff (.cmp .Eq (.loc 5) (.cst (.int 2))) (.c (.asg (.nm 1) (.tup (.c (.cst (.str "let")) (.c (.loc 4) (.c (.loc 1) (.c (.call 29 (.c (.loc 0) (.c (.cst (.int 2)) (.c (.loc 2) .n)))) .n)))))) .n) (.c (.asg (.nm 1) (.tup (.c (.cst (.str "case")) (.c (.tup (.c (.cst (.str "name")) (.c (.loc 4) .n))) (.c (.loc 4) (.c (.loc 1) (.c (.call 20 (.c (.loc 0) (.c (.loc 2) .n))) (.c (.call 29 (.c (.loc 0) (.c (.cst (.int 3)) (.c (.loc 2) .n)))) .n)))))))) .n)) .n)) .n)) .n))) (.c (.ret (.loc 1)) .n))
def f38 : Fn := ⟨6, 3, [], b38⟩
/- 39 _law_right: _law_well_here _law_drawn _law_names_here _law_few _law_turn _law_tall_here _law_wide_here _law_term_here _law_name -/
def b39 : Ss :=
  (.c (.asg (.nm 1) (.call 27 (.c (.loc 0) .n))) (.c (.asg (.nm 2) (.bin .Add (.lc (.nm 8) (.seq (.loc 1)) (.c (.call 26 (.c (.loc 8) .n)) .n) (.loc 8)) (.lst (.c (.cst (.str "x")) (.c (.cst (.str "y")) .n))))) (.c (.asg (.nm 3) (.sli (.loc 2) .no (.so (.cst (.int 3))))) (.c (.fr (.nm 4) (.rg1 (.cst (.int 3))) (.c (.asg (.nm 7) (.call 29 (.c (.loc 0) (.c (.call 20 (.c (.loc 0) (.c (.tup (.c (.cst (.int 1)) (.c (.cst (.int 3)) (.c (.cst (.int 5)) (.c (.cst (.int 7)) .n))))) .n))) (.c (.loc 3) .n))))) (.c (.iff (.or (.c (.not (.call 37 (.c (.loc 0) (.c (.loc 7) .n)))) (.c (.not (.call 37 (.c (.loc 0) (.c (.call 38 (.c (.loc 0) (.c (.loc 7) (.c (.loc 3) .n)))) .n)))) .n))) (.c (.ret (.cst (.bl false))) .n) .n) .n))) (.c (.asg (.nm 5) (.call 30 (.c (.loc 0) (.c (.call 20 (.c (.loc 0) (.c (.tup (.c (.cst (.int 20)) (.c (.cst (.int 30)) (.c (.cst (.int 50)) (.c (.cst (.int 100)) .n))))) .n))) (.c (.loc 2) .n))))) (.c (.asg (.nm 6) (.call 31 (.c (.loc 0) (.c (.call 20 (.c (.loc 0) (.c (.tup (.c (.cst (.int 12)) (.c (.cst (.int 33)) (.c (.cst (.int 61)) .n)))) .n))) (.c (.loc 2) .n))))) (.c (.ret (.and (.c (.call 37 (.c (.loc 0) (.c (.loc 5) .n))) (.c (.call 37 (.c (.loc 0) (.c (.loc 6) .n))) .n)))) .n)))))))
def f39 : Fn := ⟨9, 1, [], b39⟩
/- 40 law: _law_script _law_turn -/
def b40 : Ss :=
  (.c (.ret (.blt .all (.c (.lc (.nm 1) (.rg1 (.blt .max2 (.c (.cst (.int 2)) (.c (.blt .min2 (.c (.blt .len (.c (.loc 0) .n)) (.c (.cst (.int 3)) .n))) .n)))) .n (.call 39 (.c (.call 18 (.c (.loc 0) (.c (.loc 1) .n))) .n))) .n))) .n)
def f40 : Fn := ⟨2, 1, [], b40⟩
def F : List Fn := [f0, f1, f2, f3, f4, f5, f6, f7, f8, f9, f10, f11, f12, f13, f14, f15, f16, f17, f18, f19, f20, f21, f22, f23, f24, f25, f26, f27, f28, f29, f30, f31, f32, f33, f34, f35, f36, f37, f38, f39, f40]
def C : List D := [(.tup [(.str "a"), (.str "b"), (.str "c")]), (.wdc [.inr "unit", .inr "num", .inr "pair", .inr "either", .inr "list", .inr "fun"] [(.int 1), (.int 1), (.int 3), (.int 3), (.int 2), (.int 3)]), (.int 100), (.tup [(.str "<"), (.str "<="), (.str "==")]), (.wdc [.inr "name", .inr "fn", .inr "call", .inr "let", .inr "unit", .inr "number", .inr "plus", .inr "times", .inr "minus", .inr "is", .inr "pair", .inr "first", .inr "second", .inr "left", .inr "right", .inr "case", .inr "nil", .inr "cons", .inr "fold"] [(.str "n"), (.str "nkt"), (.str "tt"), (.str "ntt"), (.str ""), (.str "i"), (.str "tt"), (.str "tt"), (.str "t"), (.str "stt"), (.str "tt"), (.str "t"), (.str "t"), (.str "tk"), (.str "kt"), (.str "tntnt"), (.str "k"), (.str "tt"), (.str "ttt")]), (.int 8), (.int 100), (.str "abcdefghijklmnopqrstuvwxyz"), (.str "0123456789"), (.tup [(.str "fn"), (.str "let"), (.str "in"), (.str "case"), (.str "unit"), (.str "num"), (.str "list"), (.str "nil"), (.str "cons"), (.str "fold"), (.str "first"), (.str "second"), (.str "left"), (.str "right")])]
end Pk05
end
section -- Wk05
set_option Elab.async false
set_option linter.all false
set_option maxRecDepth 100000
set_option maxHeartbeats 4000000
namespace Pk05
open PySem L2 PyProof.Rows Mp
def top (i : Nat) : Stmt := PySem.Challenge.pw_bykindalone_k05_parts_depth_free_names.main.body.getD i (.Pass ⟨0, 0, 0, 0⟩)
def d0 : Dsc := ⟨"is_whole", defArgs (top 4), defBody (top 4), defScope (top 4), ["value"], ["value"], []⟩
def dv0_1 : List V := []
theorem pb0_1 {K : PySem.W.Frag} {f : Addr} {fd : FuncData} (FD : FunD K d0.name d0.name d0.params d0.body d0.scope d0.dfl [] f fd) : ∃ ds, Vals dv0_1 ds ∧ Binds K fd d0.ps ds :=
  ⟨[], .nil, FD.bindsN fun kV doc pm an cdv ct us h => match us, h with
    | [u0], _ => rfl⟩
def d1 : Dsc := ⟨"is_variable", defArgs (top 9), defBody (top 9), defScope (top 9), ["value"], ["value"], []⟩
def dv1_1 : List V := []
theorem pb1_1 {K : PySem.W.Frag} {f : Addr} {fd : FuncData} (FD : FunD K d1.name d1.name d1.params d1.body d1.scope d1.dfl [] f fd) : ∃ ds, Vals dv1_1 ds ∧ Binds K fd d1.ps ds :=
  ⟨[], .nil, FD.bindsN fun kV doc pm an cdv ct us h => match us, h with
    | [u0], _ => rfl⟩
def d2 : Dsc := ⟨"is_kinded", defArgs (top 10), defBody (top 10), defScope (top 10), ["value", "deep", "each"], ["value", "deep"], [.int 100]⟩
def dv2_2 : List V := []
theorem pb2_2 {K : PySem.W.Frag} {f : Addr} {fd : FuncData} (FD : FunD K d2.name d2.name d2.params d2.body d2.scope d2.dfl [] f fd) : ∃ ds, Vals dv2_2 ds ∧ Binds K fd d2.ps ds :=
  FD.binds1 2 1 (by decide) rfl fun T kV doc pm an cdv ct us its h1 h2 => match us, its, h1, h2 with
    | [u0, u1], [t0], _, _ => ⟨_, rfl, rfl⟩
def d3 : Dsc := ⟨"is_named", defArgs (top 19), defBody (top 19), defScope (top 19), ["value", "sign"], ["value"], []⟩
def dv3_1 : List V := []
theorem pb3_1 {K : PySem.W.Frag} {f : Addr} {fd : FuncData} (FD : FunD K d3.name d3.name d3.params d3.body d3.scope d3.dfl [] f fd) : ∃ ds, Vals dv3_1 ds ∧ Binds K fd d3.ps ds :=
  ⟨[], .nil, FD.bindsN fun kV doc pm an cdv ct us h => match us, h with
    | [u0], _ => rfl⟩
def d4 : Dsc := ⟨"is_element", defArgs (top 20), defBody (top 20), defScope (top 20), ["sign", "value", "kind_deep"], ["sign", "value", "kind_deep"], []⟩
def dv4_3 : List V := []
theorem pb4_3 {K : PySem.W.Frag} {f : Addr} {fd : FuncData} (FD : FunD K d4.name d4.name d4.params d4.body d4.scope d4.dfl [] f fd) : ∃ ds, Vals dv4_3 ds ∧ Binds K fd d4.ps ds :=
  ⟨[], .nil, FD.bindsN fun kV doc pm an cdv ct us h => match us, h with
    | [u0, u1, u2], _ => rfl⟩
def d5 : Dsc := ⟨"wrong_by", defArgs (top 21), defBody (top 21), defScope (top 21), ["value", "deep", "kind_deep", "index", "sign", "part", "found"], ["value", "deep", "kind_deep"], []⟩
def dv5_3 : List V := []
theorem pb5_3 {K : PySem.W.Frag} {f : Addr} {fd : FuncData} (FD : FunD K d5.name d5.name d5.params d5.body d5.scope d5.dfl [] f fd) : ∃ ds, Vals dv5_3 ds ∧ Binds K fd d5.ps ds :=
  ⟨[], .nil, FD.bindsN fun kV doc pm an cdv ct us h => match us, h with
    | [u0, u1, u2], _ => rfl⟩
def d6 : Dsc := ⟨"wrong_in_term", defArgs (top 22), defBody (top 22), defScope (top 22), ["value"], ["value"], []⟩
def dv6_1 : List V := []
theorem pb6_1 {K : PySem.W.Frag} {f : Addr} {fd : FuncData} (FD : FunD K d6.name d6.name d6.params d6.body d6.scope d6.dfl [] f fd) : ∃ ds, Vals dv6_1 ds ∧ Binds K fd d6.ps ds :=
  ⟨[], .nil, FD.bindsN fun kV doc pm an cdv ct us h => match us, h with
    | [u0], _ => rfl⟩
def d7 : Dsc := ⟨"subterms", defArgs (top 23), defBody (top 23), defScope (top 23), ["term", "index", "sign"], ["term"], []⟩
def dv7_1 : List V := []
theorem pb7_1 {K : PySem.W.Frag} {f : Addr} {fd : FuncData} (FD : FunD K d7.name d7.name d7.params d7.body d7.scope d7.dfl [] f fd) : ∃ ds, Vals dv7_1 ds ∧ Binds K fd d7.ps ds :=
  ⟨[], .nil, FD.bindsN fun kV doc pm an cdv ct us h => match us, h with
    | [u0], _ => rfl⟩
def d8 : Dsc := ⟨"count_parts", defArgs (top 24), defBody (top 24), defScope (top 24), ["term", "_", "part"], ["term"], []⟩
def dv8_1 : List V := []
theorem pb8_1 {K : PySem.W.Frag} {f : Addr} {fd : FuncData} (FD : FunD K d8.name d8.name d8.params d8.body d8.scope d8.dfl [] f fd) : ∃ ds, Vals dv8_1 ds ∧ Binds K fd d8.ps ds :=
  ⟨[], .nil, FD.bindsN fun kV doc pm an cdv ct us h => match us, h with
    | [u0], _ => rfl⟩
def d9 : Dsc := ⟨"depth_by", defArgs (top 25), defBody (top 25), defScope (top 25), ["term", "_", "part"], ["term"], []⟩
def dv9_1 : List V := []
theorem pb9_1 {K : PySem.W.Frag} {f : Addr} {fd : FuncData} (FD : FunD K d9.name d9.name d9.params d9.body d9.scope d9.dfl [] f fd) : ∃ ds, Vals dv9_1 ds ∧ Binds K fd d9.ps ds :=
  ⟨[], .nil, FD.bindsN fun kV doc pm an cdv ct us h => match us, h with
    | [u0], _ => rfl⟩
def d10 : Dsc := ⟨"part_by", defArgs (top 26), defBody (top 26), defScope (top 26), ["term", "path", "here", "index", "found", "at", "part"], ["term", "path"], []⟩
def dv10_2 : List V := []
theorem pb10_2 {K : PySem.W.Frag} {f : Addr} {fd : FuncData} (FD : FunD K d10.name d10.name d10.params d10.body d10.scope d10.dfl [] f fd) : ∃ ds, Vals dv10_2 ds ∧ Binds K fd d10.ps ds :=
  ⟨[], .nil, FD.bindsN fun kV doc pm an cdv ct us h => match us, h with
    | [u0, u1], _ => rfl⟩
def d11 : Dsc := ⟨"bound_in", defArgs (top 27), defBody (top 27), defScope (top 27), ["term", "index"], ["term", "index"], []⟩
def dv11_2 : List V := []
theorem pb11_2 {K : PySem.W.Frag} {f : Addr} {fd : FuncData} (FD : FunD K d11.name d11.name d11.params d11.body d11.scope d11.dfl [] f fd) : ∃ ds, Vals dv11_2 ds ∧ Binds K fd d11.ps ds :=
  ⟨[], .nil, FD.bindsN fun kV doc pm an cdv ct us h => match us, h with
    | [u0, u1], _ => rfl⟩
def d12 : Dsc := ⟨"free_in", defArgs (top 28), defBody (top 28), defScope (top 28), ["term", "found", "index", "part", "name"], ["term"], []⟩
def dv12_1 : List V := []
theorem pb12_1 {K : PySem.W.Frag} {f : Addr} {fd : FuncData} (FD : FunD K d12.name d12.name d12.params d12.body d12.scope d12.dfl [] f fd) : ∃ ds, Vals dv12_1 ds ∧ Binds K fd d12.ps ds :=
  ⟨[], .nil, FD.bindsN fun kV doc pm an cdv ct us h => match us, h with
    | [u0], _ => rfl⟩
def d13 : Dsc := ⟨"check_term", defArgs (top 30), defBody (top 30), defScope (top 30), ["value", "found"], ["value"], []⟩
def dv13_1 : List V := []
theorem pb13_1 {K : PySem.W.Frag} {f : Addr} {fd : FuncData} (FD : FunD K d13.name d13.name d13.params d13.body d13.scope d13.dfl [] f fd) : ∃ ds, Vals dv13_1 ds ∧ Binds K fd d13.ps ds :=
  ⟨[], .nil, FD.bindsN fun kV doc pm an cdv ct us h => match us, h with
    | [u0], _ => rfl⟩
def d14 : Dsc := ⟨"parts_of", defArgs (top 31), defBody (top 31), defScope (top 31), ["term"], ["term"], []⟩
def dv14_1 : List V := []
theorem pb14_1 {K : PySem.W.Frag} {f : Addr} {fd : FuncData} (FD : FunD K d14.name d14.name d14.params d14.body d14.scope d14.dfl [] f fd) : ∃ ds, Vals dv14_1 ds ∧ Binds K fd d14.ps ds :=
  ⟨[], .nil, FD.bindsN fun kV doc pm an cdv ct us h => match us, h with
    | [u0], _ => rfl⟩
theorem kb14_0 {K : PySem.W.Frag} {f : Addr} {fd : FuncData} (FD : FunD K d14.name d14.name d14.params d14.body d14.scope d14.dfl [] f fd) (s : Shared) (us : List Value) (h : us.length = [("term" : Str)].length) : BindsTo s fd ⟨[], (["term"] : List Str).zip us⟩ (d14.ps.zip ([0].filterMap fun i => us[i]?)) := by
  obtain ⟨oc, od, dV, kV, doc, pm, an, cdv, ct, osl, rfl, lk, hcd, hD, hK⟩ := FD.ex
  rcases hD with ⟨_, rfl⟩ | ⟨e, _⟩
  · match us, h with
    | [u0], _ => exact BindsTo.of_eq rfl
  · exact absurd rfl e
def d15 : Dsc := ⟨"depth_of", defArgs (top 32), defBody (top 32), defScope (top 32), ["term"], ["term"], []⟩
def dv15_1 : List V := []
theorem pb15_1 {K : PySem.W.Frag} {f : Addr} {fd : FuncData} (FD : FunD K d15.name d15.name d15.params d15.body d15.scope d15.dfl [] f fd) : ∃ ds, Vals dv15_1 ds ∧ Binds K fd d15.ps ds :=
  ⟨[], .nil, FD.bindsN fun kV doc pm an cdv ct us h => match us, h with
    | [u0], _ => rfl⟩
theorem kb15_0 {K : PySem.W.Frag} {f : Addr} {fd : FuncData} (FD : FunD K d15.name d15.name d15.params d15.body d15.scope d15.dfl [] f fd) (s : Shared) (us : List Value) (h : us.length = [("term" : Str)].length) : BindsTo s fd ⟨[], (["term"] : List Str).zip us⟩ (d15.ps.zip ([0].filterMap fun i => us[i]?)) := by
  obtain ⟨oc, od, dV, kV, doc, pm, an, cdv, ct, osl, rfl, lk, hcd, hD, hK⟩ := FD.ex
  rcases hD with ⟨_, rfl⟩ | ⟨e, _⟩
  · match us, h with
    | [u0], _ => exact BindsTo.of_eq rfl
  · exact absurd rfl e
def d16 : Dsc := ⟨"free_names", defArgs (top 33), defBody (top 33), defScope (top 33), ["term"], ["term"], []⟩
def dv16_1 : List V := []
theorem pb16_1 {K : PySem.W.Frag} {f : Addr} {fd : FuncData} (FD : FunD K d16.name d16.name d16.params d16.body d16.scope d16.dfl [] f fd) : ∃ ds, Vals dv16_1 ds ∧ Binds K fd d16.ps ds :=
  ⟨[], .nil, FD.bindsN fun kV doc pm an cdv ct us h => match us, h with
    | [u0], _ => rfl⟩
theorem kb16_0 {K : PySem.W.Frag} {f : Addr} {fd : FuncData} (FD : FunD K d16.name d16.name d16.params d16.body d16.scope d16.dfl [] f fd) (s : Shared) (us : List Value) (h : us.length = [("term" : Str)].length) : BindsTo s fd ⟨[], (["term"] : List Str).zip us⟩ (d16.ps.zip ([0].filterMap fun i => us[i]?)) := by
  obtain ⟨oc, od, dV, kV, doc, pm, an, cdv, ct, osl, rfl, lk, hcd, hD, hK⟩ := FD.ex
  rcases hD with ⟨_, rfl⟩ | ⟨e, _⟩
  · match us, h with
    | [u0], _ => exact BindsTo.of_eq rfl
  · exact absurd rfl e
def d17 : Dsc := ⟨"part_at", defArgs (top 34), defBody (top 34), defScope (top 34), ["term", "path", "found"], ["term", "path"], []⟩
def dv17_2 : List V := []
theorem pb17_2 {K : PySem.W.Frag} {f : Addr} {fd : FuncData} (FD : FunD K d17.name d17.name d17.params d17.body d17.scope d17.dfl [] f fd) : ∃ ds, Vals dv17_2 ds ∧ Binds K fd d17.ps ds :=
  ⟨[], .nil, FD.bindsN fun kV doc pm an cdv ct us h => match us, h with
    | [u0, u1], _ => rfl⟩
theorem kb17_1_0 {K : PySem.W.Frag} {f : Addr} {fd : FuncData} (FD : FunD K d17.name d17.name d17.params d17.body d17.scope d17.dfl [] f fd) (s : Shared) (us : List Value) (h : us.length = [("path" : Str), ("term" : Str)].length) : BindsTo s fd ⟨[], (["path", "term"] : List Str).zip us⟩ (d17.ps.zip ([1, 0].filterMap fun i => us[i]?)) := by
  obtain ⟨oc, od, dV, kV, doc, pm, an, cdv, ct, osl, rfl, lk, hcd, hD, hK⟩ := FD.ex
  rcases hD with ⟨_, rfl⟩ | ⟨e, _⟩
  · match us, h with
    | [u0, u1], _ => exact BindsTo.of_eq rfl
  · exact absurd rfl e
def d18 : Dsc := ⟨"_law_well", defArgs (top 36), defBody (top 36), defScope (top 36), ["_law_script", "_law_turn", "_law_mixed", "_law_cell", "_law_own"], ["_law_script", "_law_turn"], []⟩
def dv18_2 : List V := []
theorem pb18_2 {K : PySem.W.Frag} {f : Addr} {fd : FuncData} (FD : FunD K d18.name d18.name d18.params d18.body d18.scope d18.dfl [] f fd) : ∃ ds, Vals dv18_2 ds ∧ Binds K fd d18.ps ds :=
  ⟨[], .nil, FD.bindsN fun kV doc pm an cdv ct us h => match us, h with
    | [u0, u1], _ => rfl⟩
def d19 : Dsc := ⟨"_law_draw", defArgs (top 37), defBody (top 37), defScope (top 37), ["_law_well_here", "_law_many", "_law_figure"], ["_law_well_here", "_law_many"], []⟩
def dv19_2 : List V := []
theorem pb19_2 {K : PySem.W.Frag} {f : Addr} {fd : FuncData} (FD : FunD K d19.name d19.name d19.params d19.body d19.scope d19.dfl [] f fd) : ∃ ds, Vals dv19_2 ds ∧ Binds K fd d19.ps ds :=
  ⟨[], .nil, FD.bindsN fun kV doc pm an cdv ct us h => match us, h with
    | [u0, u1], _ => rfl⟩
def d20 : Dsc := ⟨"_law_pick", defArgs (top 38), defBody (top 38), defScope (top 38), ["_law_well_here", "_law_some"], ["_law_well_here", "_law_some"], []⟩
def dv20_2 : List V := []
theorem pb20_2 {K : PySem.W.Frag} {f : Addr} {fd : FuncData} (FD : FunD K d20.name d20.name d20.params d20.body d20.scope d20.dfl [] f fd) : ∃ ds, Vals dv20_2 ds ∧ Binds K fd d20.ps ds :=
  ⟨[], .nil, FD.bindsN fun kV doc pm an cdv ct us h => match us, h with
    | [u0, u1], _ => rfl⟩
def d21 : Dsc := ⟨"_law_same", defArgs (top 39), defBody (top 39), defScope (top 39), ["_law_one", "_law_two"], ["_law_one", "_law_two"], []⟩
def dv21_2 : List V := []
theorem pb21_2 {K : PySem.W.Frag} {f : Addr} {fd : FuncData} (FD : FunD K d21.name d21.name d21.params d21.body d21.scope d21.dfl [] f fd) : ∃ ds, Vals dv21_2 ds ∧ Binds K fd d21.ps ds :=
  ⟨[], .nil, FD.bindsN fun kV doc pm an cdv ct us h => match us, h with
    | [u0, u1], _ => rfl⟩
def d22 : Dsc := ⟨"_law_odd", defArgs (top 40), defBody (top 40), defScope (top 40), ["_law_well_here", "_law_some", "_law_more", "_law_ends"], ["_law_well_here"], []⟩
def dv22_1 : List V := []
theorem pb22_1 {K : PySem.W.Frag} {f : Addr} {fd : FuncData} (FD : FunD K d22.name d22.name d22.params d22.body d22.scope d22.dfl [] f fd) : ∃ ds, Vals dv22_1 ds ∧ Binds K fd d22.ps ds :=
  ⟨[], .nil, FD.bindsN fun kV doc pm an cdv ct us h => match us, h with
    | [u0], _ => rfl⟩
def d23 : Dsc := ⟨"_law_number", defArgs (top 41), defBody (top 41), defScope (top 41), ["_law_well_here", "_law_branch", "_law_great"], ["_law_well_here"], []⟩
def dv23_1 : List V := []
theorem pb23_1 {K : PySem.W.Frag} {f : Addr} {fd : FuncData} (FD : FunD K d23.name d23.name d23.params d23.body d23.scope d23.dfl [] f fd) : ∃ ds, Vals dv23_1 ds ∧ Binds K fd d23.ps ds :=
  ⟨[], .nil, FD.bindsN fun kV doc pm an cdv ct us h => match us, h with
    | [u0], _ => rfl⟩
def d24 : Dsc := ⟨"_law_kind", defArgs (top 42), defBody (top 42), defScope (top 42), ["_law_well_here", "_law_deep", "_law_which", "_law_branch", "_law_word", "_law_one"], ["_law_well_here", "_law_deep", "_law_which"], []⟩
def dv24_3 : List V := []
theorem pb24_3 {K : PySem.W.Frag} {f : Addr} {fd : FuncData} (FD : FunD K d24.name d24.name d24.params d24.body d24.scope d24.dfl [] f fd) : ∃ ds, Vals dv24_3 ds ∧ Binds K fd d24.ps ds :=
  ⟨[], .nil, FD.bindsN fun kV doc pm an cdv ct us h => match us, h with
    | [u0, u1, u2], _ => rfl⟩
def d25 : Dsc := ⟨"_law_forms", defArgs (top 43), defBody (top 43), defScope (top 43), ["_law_word", "_law_found"], ["_law_word"], []⟩
def dv25_1 : List V := []
theorem pb25_1 {K : PySem.W.Frag} {f : Addr} {fd : FuncData} (FD : FunD K d25.name d25.name d25.params d25.body d25.scope d25.dfl [] f fd) : ∃ ds, Vals dv25_1 ds ∧ Binds K fd d25.ps ds :=
  ⟨[], .nil, FD.bindsN fun kV doc pm an cdv ct us h => match us, h with
    | [u0], _ => rfl⟩
def d26 : Dsc := ⟨"_law_is_name", defArgs (top 44), defBody (top 44), defScope (top 44), ["_law_thing", "_law_words", "_law_sign"], ["_law_thing"], []⟩
def dv26_1 : List V := []
theorem pb26_1 {K : PySem.W.Frag} {f : Addr} {fd : FuncData} (FD : FunD K d26.name d26.name d26.params d26.body d26.scope d26.dfl [] f fd) : ∃ ds, Vals dv26_1 ds ∧ Binds K fd d26.ps ds :=
  ⟨[], .nil, FD.bindsN fun kV doc pm an cdv ct us h => match us, h with
    | [u0], _ => rfl⟩
def d27 : Dsc := ⟨"_law_names", defArgs (top 45), defBody (top 45), defScope (top 45), ["_law_well_here", "_law_one", "_law_two", "_law_three", "_law_four", "_law_letter", "_law_other"], ["_law_well_here"], []⟩
def dv27_1 : List V := []
theorem pb27_1 {K : PySem.W.Frag} {f : Addr} {fd : FuncData} (FD : FunD K d27.name d27.name d27.params d27.body d27.scope d27.dfl [] f fd) : ∃ ds, Vals dv27_1 ds ∧ Binds K fd d27.ps ds :=
  ⟨[], .nil, FD.bindsN fun kV doc pm an cdv ct us h => match us, h with
    | [u0], _ => rfl⟩
def d28 : Dsc := ⟨"_law_leaf", defArgs (top 46), defBody (top 46), defScope (top 46), ["_law_well_here", "_law_names_here", "_law_branch"], ["_law_well_here", "_law_names_here"], []⟩
def dv28_2 : List V := []
theorem pb28_2 {K : PySem.W.Frag} {f : Addr} {fd : FuncData} (FD : FunD K d28.name d28.name d28.params d28.body d28.scope d28.dfl [] f fd) : ∃ ds, Vals dv28_2 ds ∧ Binds K fd d28.ps ds :=
  ⟨[], .nil, FD.bindsN fun kV doc pm an cdv ct us h => match us, h with
    | [u0, u1], _ => rfl⟩
def d29 : Dsc := ⟨"_law_term", defArgs (top 47), defBody (top 47), defScope (top 47), ["_law_well_here", "_law_deep", "_law_names_here", "_law_word", "_law_made", "_law_letter"], ["_law_well_here", "_law_deep", "_law_names_here"], []⟩
def dv29_3 : List V := []
theorem pb29_3 {K : PySem.W.Frag} {f : Addr} {fd : FuncData} (FD : FunD K d29.name d29.name d29.params d29.body d29.scope d29.dfl [] f fd) : ∃ ds, Vals dv29_3 ds ∧ Binds K fd d29.ps ds :=
  ⟨[], .nil, FD.bindsN fun kV doc pm an cdv ct us h => match us, h with
    | [u0, u1, u2], _ => rfl⟩
def d30 : Dsc := ⟨"_law_tall", defArgs (top 48), defBody (top 48), defScope (top 48), ["_law_well_here", "_law_many", "_law_names_here", "_law_term_here", "_law_turn", "_law_way"], ["_law_well_here", "_law_many", "_law_names_here"], []⟩
def dv30_3 : List V := []
theorem pb30_3 {K : PySem.W.Frag} {f : Addr} {fd : FuncData} (FD : FunD K d30.name d30.name d30.params d30.body d30.scope d30.dfl [] f fd) : ∃ ds, Vals dv30_3 ds ∧ Binds K fd d30.ps ds :=
  ⟨[], .nil, FD.bindsN fun kV doc pm an cdv ct us h => match us, h with
    | [u0, u1, u2], _ => rfl⟩
def d31 : Dsc := ⟨"_law_wide", defArgs (top 49), defBody (top 49), defScope (top 49), ["_law_well_here", "_law_leaves", "_law_names_here", "_law_word", "_law_one"], ["_law_well_here", "_law_leaves", "_law_names_here"], []⟩
def dv31_3 : List V := []
theorem pb31_3 {K : PySem.W.Frag} {f : Addr} {fd : FuncData} (FD : FunD K d31.name d31.name d31.params d31.body d31.scope d31.dfl [] f fd) : ∃ ds, Vals dv31_3 ds ∧ Binds K fd d31.ps ds :=
  ⟨[], .nil, FD.bindsN fun kV doc pm an cdv ct us h => match us, h with
    | [u0, u1, u2], _ => rfl⟩
def d32 : Dsc := ⟨"_law_walked", defArgs (top 50), defBody (top 50), defScope (top 50), ["_law_term_here", "_law_path", "_law_bound", "_law_at", "_law_found", "_law_forms_here", "_law_inner"], ["_law_term_here", "_law_path", "_law_bound"], []⟩
def dv32_3 : List V := []
theorem pb32_3 {K : PySem.W.Frag} {f : Addr} {fd : FuncData} (FD : FunD K d32.name d32.name d32.params d32.body d32.scope d32.dfl [] f fd) : ∃ ds, Vals dv32_3 ds ∧ Binds K fd d32.ps ds :=
  ⟨[], .nil, FD.bindsN fun kV doc pm an cdv ct us h => match us, h with
    | [u0, u1, u2], _ => rfl⟩
def d33 : Dsc := ⟨"_law_free", defArgs (top 51), defBody (top 51), defScope (top 51), ["_law_rows", "_law_names_here", "_law_path", "_law_part_here", "_law_bound"], ["_law_rows"], []⟩
def dv33_1 : List V := []
theorem pb33_1 {K : PySem.W.Frag} {f : Addr} {fd : FuncData} (FD : FunD K d33.name d33.name d33.params d33.body d33.scope d33.dfl [] f fd) : ∃ ds, Vals dv33_1 ds ∧ Binds K fd d33.ps ds :=
  ⟨[], .nil, FD.bindsN fun kV doc pm an cdv ct us h => match us, h with
    | [u0], _ => rfl⟩
def d34 : Dsc := ⟨"_law_part", defArgs (top 52), defBody (top 52), defScope (top 52), ["_law_term_here", "_law_path", "_law_here", "_law_at"], ["_law_term_here", "_law_path"], []⟩
def dv34_2 : List V := []
theorem pb34_2 {K : PySem.W.Frag} {f : Addr} {fd : FuncData} (FD : FunD K d34.name d34.name d34.params d34.body d34.scope d34.dfl [] f fd) : ∃ ds, Vals dv34_2 ds ∧ Binds K fd d34.ps ds :=
  ⟨[], .nil, FD.bindsN fun kV doc pm an cdv ct us h => match us, h with
    | [u0, u1], _ => rfl⟩
def d35 : Dsc := ⟨"_law_other_path", defArgs (top 53), defBody (top 53), defScope (top 53), ["_law_well_here", "_law_path", "_law_way"], ["_law_well_here", "_law_path"], []⟩
def dv35_2 : List V := []
theorem pb35_2 {K : PySem.W.Frag} {f : Addr} {fd : FuncData} (FD : FunD K d35.name d35.name d35.params d35.body d35.scope d35.dfl [] f fd) : ∃ ds, Vals dv35_2 ds ∧ Binds K fd d35.ps ds :=
  ⟨[], .nil, FD.bindsN fun kV doc pm an cdv ct us h => match us, h with
    | [u0, u1], _ => rfl⟩
def d36 : Dsc := ⟨"_law_are_paths", defArgs (top 54), defBody (top 54), defScope (top 54), ["_law_well_here", "_law_term_here", "_law_rows", "_law_begin", "_law_path", "_law_part_here", "_law_bound", "_law_here", "_law_other", "_law_found", "_law_shown"], ["_law_well_here", "_law_term_here", "_law_rows"], []⟩
def dv36_3 : List V := []
theorem pb36_3 {K : PySem.W.Frag} {f : Addr} {fd : FuncData} (FD : FunD K d36.name d36.name d36.params d36.body d36.scope d36.dfl [] f fd) : ∃ ds, Vals dv36_3 ds ∧ Binds K fd d36.ps ds :=
  ⟨[], .nil, FD.bindsN fun kV doc pm an cdv ct us h => match us, h with
    | [u0, u1, u2], _ => rfl⟩
def d37 : Dsc := ⟨"_law_is_counted", defArgs (top 55), defBody (top 55), defScope (top 55), ["_law_well_here", "_law_term_here", "_law_rows", "_law_deep", "_law_free_here", "_law_inner", "_law_deep_inner", "_law_found", "_law_path", "_law_part_here", "_law_bound", "_law_row"], ["_law_well_here", "_law_term_here"], []⟩
def dv37_2 : List V := []
theorem pb37_2 {K : PySem.W.Frag} {f : Addr} {fd : FuncData} (FD : FunD K d37.name d37.name d37.params d37.body d37.scope d37.dfl [] f fd) : ∃ ds, Vals dv37_2 ds ∧ Binds K fd d37.ps ds :=
  ⟨[], .nil, FD.bindsN fun kV doc pm an cdv ct us h => match us, h with
    | [u0, u1], _ => rfl⟩
def d38 : Dsc := ⟨"_law_bound_often", defArgs (top 56), defBody (top 56), defScope (top 56), ["_law_well_here", "_law_term_here", "_law_names_here", "_law_turn", "_law_name", "_law_way"], ["_law_well_here", "_law_term_here", "_law_names_here"], []⟩
def dv38_3 : List V := []
theorem pb38_3 {K : PySem.W.Frag} {f : Addr} {fd : FuncData} (FD : FunD K d38.name d38.name d38.params d38.body d38.scope d38.dfl [] f fd) : ∃ ds, Vals dv38_3 ds ∧ Binds K fd d38.ps ds :=
  ⟨[], .nil, FD.bindsN fun kV doc pm an cdv ct us h => match us, h with
    | [u0, u1, u2], _ => rfl⟩
def d39 : Dsc := ⟨"_law_right", defArgs (top 57), defBody (top 57), defScope (top 57), ["_law_well_here", "_law_drawn", "_law_names_here", "_law_few", "_law_turn", "_law_tall_here", "_law_wide_here", "_law_term_here", "_law_name"], ["_law_well_here"], []⟩
def dv39_1 : List V := []
theorem pb39_1 {K : PySem.W.Frag} {f : Addr} {fd : FuncData} (FD : FunD K d39.name d39.name d39.params d39.body d39.scope d39.dfl [] f fd) : ∃ ds, Vals dv39_1 ds ∧ Binds K fd d39.ps ds :=
  ⟨[], .nil, FD.bindsN fun kV doc pm an cdv ct us h => match us, h with
    | [u0], _ => rfl⟩
def d40 : Dsc := ⟨"law", defArgs (top 58), defBody (top 58), defScope (top 58), ["_law_script", "_law_turn"], ["_law_script"], []⟩
def dsc : List Dsc := [d0, d1, d2, d3, d4, d5, d6, d7, d8, d9, d10, d11, d12, d13, d14, d15, d16, d17, d18, d19, d20, d21, d22, d23, d24, d25, d26, d27, d28, d29, d30, d31, d32, d33, d34, d35, d36, d37, d38, d39, d40]
def bl : List Str := ["ValueError", "abs", "all", "bool", "divmod", "enumerate", "int", "isinstance", "len", "list", "max", "min", "range", "repr", "sorted", "str", "sum", "super", "tuple"]
def cn : List Str := ["VARS", "KIND_SIZES", "MOST_KIND_DEEP", "SIGNS", "SHAPES", "MOST_SIGNS", "MOST_DEEP", "LETTERS", "FIGURES", "WORDS"]
/-- what the head gives -/
structure Facts (K : PySem.W.Frag) (w : World) (mg : Str → Option Value) : Prop where
  sm : (K.lookup sysModules).isSome = true
  no : ∀ x, x ∈ bl → mg x = none
  cst : ∀ (i : Nat) (x : Str) (d : D), cn[i]? = some x → C[i]? = some d → CstAt K w mg x d
  at_ : ∀ (i : Nat) (d : Dsc), dsc[i]? = some d → ∃ f fd, At K mg d f fd
theorem w0 {P : Program} {w : World} {K : PySem.W.Frag} {mg : Str → Option Value} {base : Heap} {cA : Nat → Addr} {n : Nat} {f : Addr} (Fc : Facts K w mg) (A : All P w K mg base cA F C dsc n) (cdv : Value) (Ar : Around) (outer : List PySem.Env) (s : Shared) (H : Hp) (E : XK) (hr : Room n (cxOf (L2.CX P w) P w K mg base d0.N d0.name d0.scope f cdv Ar outer s H E).A) (k : Kit (cxOf (L2.CX P w) P w K mg base d0.N d0.name d0.scope f cdv Ar outer s H E) E) (hp : PassesOwn (model P w) (cxOf (L2.CX P w) P w K mg base d0.N d0.name d0.scope f cdv Ar outer s H E).A (cxOf (L2.CX P w) P w K mg base d0.N d0.name d0.scope f cdv Ar outer s H E).env (cxOf (L2.CX P w) P w K mg base d0.N d0.name d0.scope f cdv Ar outer s H E).xe) :
    PSs (cxOf (L2.CX P w) P w K mg base d0.N d0.name d0.scope f cdv Ar outer s H E) d0.body (tS cA K w E (exs (run F C n) C f0.body)) :=
  (ss_cons
  (s_ret (s_and (s_andc (s_isi (t := .int) (by decide) bt_int rfl (Fc.no "isinstance" (by decide)) rfl (Fc.no "int" (by decide)) (s_loc (i := 0) rfl (by first | exact .inl rfl | exact .inr (.inl rfl) | exact .inr (.inr rfl)))) (s_and1 (s_not (s_isi (t := .bool) (by decide) bt_bool rfl (Fc.no "isinstance" (by decide)) rfl (Fc.no "bool" (by decide)) (s_loc (i := 0) rfl (by first | exact .inl rfl | exact .inr (.inl rfl) | exact .inr (.inr rfl)))))))))
  ss_nil)
theorem w1 {P : Program} {w : World} {K : PySem.W.Frag} {mg : Str → Option Value} {base : Heap} {cA : Nat → Addr} {n : Nat} {f : Addr} (Fc : Facts K w mg) (A : All P w K mg base cA F C dsc n) (cdv : Value) (Ar : Around) (outer : List PySem.Env) (s : Shared) (H : Hp) (E : XK) (hr : Room n (cxOf (L2.CX P w) P w K mg base d1.N d1.name d1.scope f cdv Ar outer s H E).A) (k : Kit (cxOf (L2.CX P w) P w K mg base d1.N d1.name d1.scope f cdv Ar outer s H E) E) (hp : PassesOwn (model P w) (cxOf (L2.CX P w) P w K mg base d1.N d1.name d1.scope f cdv Ar outer s H E).A (cxOf (L2.CX P w) P w K mg base d1.N d1.name d1.scope f cdv Ar outer s H E).env (cxOf (L2.CX P w) P w K mg base d1.N d1.name d1.scope f cdv Ar outer s H E).xe) :
    PSs (cxOf (L2.CX P w) P w K mg base d1.N d1.name d1.scope f cdv Ar outer s H E) d1.body (tS cA K w E (exs (run F C n) C f1.body)) :=
  (ss_cons
  (s_ret (s_and (s_andc (s_isi (t := .str) (by decide) bt_str rfl (Fc.no "isinstance" (by decide)) rfl (Fc.no "str" (by decide)) (s_loc (i := 0) rfl (by first | exact .inl rfl | exact .inr (.inl rfl) | exact .inr (.inr rfl)))) (s_and1 (s_cmp k (s_loc (i := 0) rfl (by first | exact .inl rfl | exact .inr (.inl rfl) | exact .inr (.inr rfl))) (c_glo (i := 0) rfl (Fc.cst 0 _ _ rfl rfl) rfl))))))
  ss_nil)
theorem w2 {P : Program} {w : World} {K : PySem.W.Frag} {mg : Str → Option Value} {base : Heap} {cA : Nat → Addr} {n : Nat} {f : Addr} (Fc : Facts K w mg) (A : All P w K mg base cA F C dsc n) (cdv : Value) (Ar : Around) (outer : List PySem.Env) (s : Shared) (H : Hp) (E : XK) (hr : Room n (cxOf (L2.CX P w) P w K mg base d2.N d2.name d2.scope f cdv Ar outer s H E).A) (k : Kit (cxOf (L2.CX P w) P w K mg base d2.N d2.name d2.scope f cdv Ar outer s H E) E) (hp : PassesOwn (model P w) (cxOf (L2.CX P w) P w K mg base d2.N d2.name d2.scope f cdv Ar outer s H E).A (cxOf (L2.CX P w) P w K mg base d2.N d2.name d2.scope f cdv Ar outer s H E).env (cxOf (L2.CX P w) P w K mg base d2.N d2.name d2.scope f cdv Ar outer s H E).xe) :
    PSs (cxOf (L2.CX P w) P w K mg base d2.N d2.name d2.scope f cdv Ar outer s H E) d2.body (tS cA K w E (exs (run F C n) C f2.body)) :=
  (ss_cons
  (s_iff (t_or (w_orc (t_cmp k (s_loc (i := 1) rfl (by first | exact .inl rfl | exact .inr (.inl rfl) | exact .inr (.inr rfl))) s_int) (w_orc (t_not (t_isi (s_isi (t := .tup) (by decide) bt_tuple rfl (Fc.no "isinstance" (by decide)) rfl (Fc.no "tuple" (by decide)) (s_loc (i := 0) rfl (by first | exact .inl rfl | exact .inr (.inl rfl) | exact .inr (.inr rfl)))))) (w_orc (t_cmp k (s_loc (i := 0) rfl (by first | exact .inl rfl | exact .inr (.inl rfl) | exact .inr (.inr rfl))) (s_tup s_nil)) (w_or1 (t_not (t_isi (s_isi (t := .str) (by decide) bt_str rfl (Fc.no "isinstance" (by decide)) rfl (Fc.no "str" (by decide)) (s_sub k (s_loc (i := 0) rfl (by first | exact .inl rfl | exact .inr (.inl rfl) | exact .inr (.inr rfl))) s_int))))))))) (ss_cons
  (s_ret s_bl)
  ss_nil) ss_nil)
  (ss_cons
  (s_iff (t_cmp k (s_sub k (s_loc (i := 0) rfl (by first | exact .inl rfl | exact .inr (.inl rfl) | exact .inr (.inr rfl))) s_int) s_str) (ss_cons
  (s_ret (s_and (s_andc (s_cmp k (s_bltB (b := .len) blt_len rfl (Fc.no "len" (by decide)) bt_len (s_cons (s_loc (i := 0) rfl (by first | exact .inl rfl | exact .inr (.inl rfl) | exact .inr (.inr rfl))) s_nil)) s_int) (s_and1 (c_call (d := d1) (dvs := dv1_1) (dd := []) A rfl rfl rfl rfl rfl k hr rfl rfl rfl (pb1_1) (by intro w H j; simp [f1, dv1_1, RepL, Rep]) rfl (fun n => run_dfl (g := f1) rfl rfl rfl n) (s_cons (s_sub k (s_loc (i := 0) rfl (by first | exact .inl rfl | exact .inr (.inl rfl) | exact .inr (.inr rfl))) s_int) s_nil))))))
  ss_nil) ss_nil)
  (ss_cons
  (s_iff (t_cmp k (s_bltB (b := .len) blt_len rfl (Fc.no "len" (by decide)) bt_len (s_cons (s_loc (i := 0) rfl (by first | exact .inl rfl | exact .inr (.inl rfl) | exact .inr (.inr rfl))) s_nil)) (s_get2 k (c_glo (i := 1) rfl (Fc.cst 1 _ _ rfl rfl) rfl) (s_sub k (s_loc (i := 0) rfl (by first | exact .inl rfl | exact .inr (.inl rfl) | exact .inr (.inr rfl))) s_int) s_int)) (ss_cons
  (s_ret s_bl)
  ss_nil) ss_nil)
  (ss_cons
  (s_ret (s_bltB (b := .all) (blt_all k.gx) rfl (Fc.no "all" (by decide)) bt_all (s_cons (s_lc k (i_seq (s_sli (s_loc (i := 0) rfl (by first | exact .inl rfl | exact .inr (.inl rfl) | exact .inr (.inr rfl))) (o_so s_int) o_no)) (blkOk_by (own := [("each", 2)]) (by rfl)) rfl (fun _ _ _ _ _ => (g_nm (i := 2) (k.blk _ _ _ _ _) rfl (by first | exact .inl rfl | exact .inr rfl))) (fun _ _ _ _ _ => ts_nil) (fun _ _ _ _ _ => (c_call (d := d2) (dvs := dv2_2) (dd := []) A rfl rfl rfl rfl rfl (k.blk _ _ _ _ _) hr rfl rfl rfl (pb2_2) (by intro w H j; simp [f2, dv2_2, RepL, Rep]) rfl (fun n => run_dfl (g := f2) rfl rfl rfl n) (s_cons (s_loc (i := 2) rfl (by first | exact .inl rfl | exact .inr (.inl rfl) | exact .inr (.inr rfl))) (s_cons (s_bin (k.blk _ _ _ _ _) (s_loc (i := 1) rfl (by first | exact .inl rfl | exact .inr (.inl rfl) | exact .inr (.inr rfl))) s_int) s_nil))))) s_nil)))
  ss_nil))))
theorem w3 {P : Program} {w : World} {K : PySem.W.Frag} {mg : Str → Option Value} {base : Heap} {cA : Nat → Addr} {n : Nat} {f : Addr} (Fc : Facts K w mg) (A : All P w K mg base cA F C dsc n) (cdv : Value) (Ar : Around) (outer : List PySem.Env) (s : Shared) (H : Hp) (E : XK) (hr : Room n (cxOf (L2.CX P w) P w K mg base d3.N d3.name d3.scope f cdv Ar outer s H E).A) (k : Kit (cxOf (L2.CX P w) P w K mg base d3.N d3.name d3.scope f cdv Ar outer s H E) E) (hp : PassesOwn (model P w) (cxOf (L2.CX P w) P w K mg base d3.N d3.name d3.scope f cdv Ar outer s H E).A (cxOf (L2.CX P w) P w K mg base d3.N d3.name d3.scope f cdv Ar outer s H E).env (cxOf (L2.CX P w) P w K mg base d3.N d3.name d3.scope f cdv Ar outer s H E).xe) :
    PSs (cxOf (L2.CX P w) P w K mg base d3.N d3.name d3.scope f cdv Ar outer s H E) d3.body (tS cA K w E (exs (run F C n) C f3.body)) :=
  (ss_cons
  (s_iff (t_or (w_orc (t_not (t_isi (s_isi (t := .str) (by decide) bt_str rfl (Fc.no "isinstance" (by decide)) rfl (Fc.no "str" (by decide)) (s_loc (i := 0) rfl (by first | exact .inl rfl | exact .inr (.inl rfl) | exact .inr (.inr rfl)))))) (w_orc (t_not (t_chn k s_int (s_bltB (b := .len) blt_len rfl (Fc.no "len" (by decide)) bt_len (s_cons (s_loc (i := 0) rfl (by first | exact .inl rfl | exact .inr (.inl rfl) | exact .inr (.inr rfl))) s_nil)) (c_glo (i := 5) rfl (Fc.cst 5 _ _ rfl rfl) rfl))) (w_or1 (t_cmp k (s_loc (i := 0) rfl (by first | exact .inl rfl | exact .inr (.inl rfl) | exact .inr (.inr rfl))) (c_glo (i := 9) rfl (Fc.cst 9 _ _ rfl rfl) rfl)))))) (ss_cons
  (s_ret s_bl)
  ss_nil) ss_nil)
  (ss_cons
  (s_ret (s_and (s_andc (s_cmp k (s_sub k (s_loc (i := 0) rfl (by first | exact .inl rfl | exact .inr (.inl rfl) | exact .inr (.inr rfl))) s_int) (c_glo (i := 7) rfl (Fc.cst 7 _ _ rfl rfl) rfl)) (s_and1 (s_bltB (b := .all) (blt_all k.gx) rfl (Fc.no "all" (by decide)) bt_all (s_cons (s_lc k (i_seq (s_loc (i := 0) rfl (by first | exact .inl rfl | exact .inr (.inl rfl) | exact .inr (.inr rfl)))) (blkOk_by (own := [("sign", 1)]) (by rfl)) rfl (fun _ _ _ _ _ => (g_nm (i := 1) (k.blk _ _ _ _ _) rfl (by first | exact .inl rfl | exact .inr rfl))) (fun _ _ _ _ _ => ts_nil) (fun _ _ _ _ _ => (s_cmp (k.blk _ _ _ _ _) (s_loc (i := 1) rfl (by first | exact .inl rfl | exact .inr (.inl rfl) | exact .inr (.inr rfl))) (s_bin (k.blk _ _ _ _ _) (c_glo (i := 7) rfl (Fc.cst 7 _ _ rfl rfl) rfl) (c_glo (i := 8) rfl (Fc.cst 8 _ _ rfl rfl) rfl))))) s_nil))))))
  ss_nil))
theorem w4 {P : Program} {w : World} {K : PySem.W.Frag} {mg : Str → Option Value} {base : Heap} {cA : Nat → Addr} {n : Nat} {f : Addr} (Fc : Facts K w mg) (A : All P w K mg base cA F C dsc n) (cdv : Value) (Ar : Around) (outer : List PySem.Env) (s : Shared) (H : Hp) (E : XK) (hr : Room n (cxOf (L2.CX P w) P w K mg base d4.N d4.name d4.scope f cdv Ar outer s H E).A) (k : Kit (cxOf (L2.CX P w) P w K mg base d4.N d4.name d4.scope f cdv Ar outer s H E) E) (hp : PassesOwn (model P w) (cxOf (L2.CX P w) P w K mg base d4.N d4.name d4.scope f cdv Ar outer s H E).A (cxOf (L2.CX P w) P w K mg base d4.N d4.name d4.scope f cdv Ar outer s H E).env (cxOf (L2.CX P w) P w K mg base d4.N d4.name d4.scope f cdv Ar outer s H E).xe) :
    PSs (cxOf (L2.CX P w) P w K mg base d4.N d4.name d4.scope f cdv Ar outer s H E) d4.body (tS cA K w E (exs (run F C n) C f4.body)) :=
  (ss_cons
  (s_iff (t_cmp k (s_loc (i := 0) rfl (by first | exact .inl rfl | exact .inr (.inl rfl) | exact .inr (.inr rfl))) s_str) (ss_cons
  (s_ret (c_call (d := d3) (dvs := dv3_1) (dd := []) A rfl rfl rfl rfl rfl k hr rfl rfl rfl (pb3_1) (by intro w H j; simp [f3, dv3_1, RepL, Rep]) rfl (fun n => run_dfl (g := f3) rfl rfl rfl n) (s_cons (s_loc (i := 1) rfl (by first | exact .inl rfl | exact .inr (.inl rfl) | exact .inr (.inr rfl))) s_nil)))
  ss_nil) ss_nil)
  (ss_cons
  (s_iff (t_cmp k (s_loc (i := 0) rfl (by first | exact .inl rfl | exact .inr (.inl rfl) | exact .inr (.inr rfl))) s_str) (ss_cons
  (s_ret (c_call (d := d2) (dvs := dv2_2) (dd := []) A rfl rfl rfl rfl rfl k hr rfl rfl rfl (pb2_2) (by intro w H j; simp [f2, dv2_2, RepL, Rep]) rfl (fun n => run_dfl (g := f2) rfl rfl rfl n) (s_cons (s_loc (i := 1) rfl (by first | exact .inl rfl | exact .inr (.inl rfl) | exact .inr (.inr rfl))) (s_cons (s_loc (i := 2) rfl (by first | exact .inl rfl | exact .inr (.inl rfl) | exact .inr (.inr rfl))) s_nil))))
  ss_nil) ss_nil)
  (ss_cons
  (s_iff (t_cmp k (s_loc (i := 0) rfl (by first | exact .inl rfl | exact .inr (.inl rfl) | exact .inr (.inr rfl))) s_str) (ss_cons
  (s_ret (s_and (s_andc (s_isi (t := .str) (by decide) bt_str rfl (Fc.no "isinstance" (by decide)) rfl (Fc.no "str" (by decide)) (s_loc (i := 1) rfl (by first | exact .inl rfl | exact .inr (.inl rfl) | exact .inr (.inr rfl)))) (s_and1 (s_cmp k (s_loc (i := 1) rfl (by first | exact .inl rfl | exact .inr (.inl rfl) | exact .inr (.inr rfl))) (c_glo (i := 3) rfl (Fc.cst 3 _ _ rfl rfl) rfl))))))
  ss_nil) ss_nil)
  (ss_cons
  (s_ret (s_and (s_andc (c_call (d := d0) (dvs := dv0_1) (dd := []) A rfl rfl rfl rfl rfl k hr rfl rfl rfl (pb0_1) (by intro w H j; simp [f0, dv0_1, RepL, Rep]) rfl (fun n => run_dfl (g := f0) rfl rfl rfl n) (s_cons (s_loc (i := 1) rfl (by first | exact .inl rfl | exact .inr (.inl rfl) | exact .inr (.inr rfl))) s_nil)) (s_and1 (s_cmp k (s_bltB (b := .abs) blt_abs rfl (Fc.no "abs" (by decide)) bt_abs (s_cons (s_loc (i := 1) rfl (by first | exact .inl rfl | exact .inr (.inl rfl) | exact .inr (.inr rfl))) s_nil)) (s_bin k (s_bin k s_int s_int) s_int))))))
  ss_nil))))
theorem w5 {P : Program} {w : World} {K : PySem.W.Frag} {mg : Str → Option Value} {base : Heap} {cA : Nat → Addr} {n : Nat} {f : Addr} (Fc : Facts K w mg) (A : All P w K mg base cA F C dsc n) (cdv : Value) (Ar : Around) (outer : List PySem.Env) (s : Shared) (H : Hp) (E : XK) (hr : Room n (cxOf (L2.CX P w) P w K mg base d5.N d5.name d5.scope f cdv Ar outer s H E).A) (k : Kit (cxOf (L2.CX P w) P w K mg base d5.N d5.name d5.scope f cdv Ar outer s H E) E) (hp : PassesOwn (model P w) (cxOf (L2.CX P w) P w K mg base d5.N d5.name d5.scope f cdv Ar outer s H E).A (cxOf (L2.CX P w) P w K mg base d5.N d5.name d5.scope f cdv Ar outer s H E).env (cxOf (L2.CX P w) P w K mg base d5.N d5.name d5.scope f cdv Ar outer s H E).xe) :
    PSs (cxOf (L2.CX P w) P w K mg base d5.N d5.name d5.scope f cdv Ar outer s H E) d5.body (tS cA K w E (exs (run F C n) C f5.body)) :=
  (ss_cons
  (s_iff (t_or (w_orc (t_cmp k (s_loc (i := 1) rfl (by first | exact .inl rfl | exact .inr (.inl rfl) | exact .inr (.inr rfl))) s_int) (w_orc (t_not (t_isi (s_isi (t := .tup) (by decide) bt_tuple rfl (Fc.no "isinstance" (by decide)) rfl (Fc.no "tuple" (by decide)) (s_loc (i := 0) rfl (by first | exact .inl rfl | exact .inr (.inl rfl) | exact .inr (.inr rfl)))))) (w_orc (t_cmp k (s_loc (i := 0) rfl (by first | exact .inl rfl | exact .inr (.inl rfl) | exact .inr (.inr rfl))) (s_tup s_nil)) (w_or1 (t_not (t_isi (s_isi (t := .str) (by decide) bt_str rfl (Fc.no "isinstance" (by decide)) rfl (Fc.no "str" (by decide)) (s_sub k (s_loc (i := 0) rfl (by first | exact .inl rfl | exact .inr (.inl rfl) | exact .inr (.inr rfl))) s_int))))))))) (ss_cons
  (s_ret (s_lst (s_cons (s_tup s_nil) s_nil)))
  ss_nil) ss_nil)
  (ss_cons
  (s_iff (t_or (w_orc (t_cmp k (s_sub k (s_loc (i := 0) rfl (by first | exact .inl rfl | exact .inr (.inl rfl) | exact .inr (.inr rfl))) s_int) (c_glo (i := 4) rfl (Fc.cst 4 _ _ rfl rfl) rfl)) (w_or1 (t_cmp k (s_bltB (b := .len) blt_len rfl (Fc.no "len" (by decide)) bt_len (s_cons (s_loc (i := 0) rfl (by first | exact .inl rfl | exact .inr (.inl rfl) | exact .inr (.inr rfl))) s_nil)) (s_bin k s_int (s_bltB (b := .len) blt_len rfl (Fc.no "len" (by decide)) bt_len (s_cons (s_sub k (c_glo (i := 4) rfl (Fc.cst 4 _ _ rfl rfl) rfl) (s_sub k (s_loc (i := 0) rfl (by first | exact .inl rfl | exact .inr (.inl rfl) | exact .inr (.inr rfl))) s_int)) s_nil))))))) (ss_cons
  (s_ret (s_lst (s_cons (s_tup s_nil) s_nil)))
  ss_nil) ss_nil)
  (ss_cons
  (s_for hp k (i_enm rfl (Fc.no "enumerate" (by decide)) (s_sub k (c_glo (i := 4) rfl (Fc.cst 4 _ _ rfl rfl) rfl) (s_sub k (s_loc (i := 0) rfl (by first | exact .inl rfl | exact .inr (.inl rfl) | exact .inr (.inr rfl))) s_int))) (g_tp k (g_tc (g_nm (i := 3) k rfl (by first | exact .inl rfl | exact .inr rfl)) (g_tc (g_nm (i := 4) k rfl (by first | exact .inl rfl | exact .inr rfl)) g_tn))) (ss_cons
  (s_asg (s_sub k (s_loc (i := 0) rfl (by first | exact .inl rfl | exact .inr (.inl rfl) | exact .inr (.inr rfl))) (s_bin k (s_loc (i := 3) rfl (by first | exact .inl rfl | exact .inr (.inl rfl) | exact .inr (.inr rfl))) s_int)) (g_nm (i := 5) k rfl (by first | exact .inl rfl | exact .inr rfl)))
  (ss_cons
  (s_asg (s_ite (t_cmp k (s_loc (i := 4) rfl (by first | exact .inl rfl | exact .inr (.inl rfl) | exact .inr (.inr rfl))) s_str) (c_call (d := d5) (dvs := dv5_3) (dd := []) A rfl rfl rfl rfl rfl k hr rfl rfl rfl (pb5_3) (by intro w H j; simp [f5, dv5_3, RepL, Rep]) rfl (fun n => run_dfl (g := f5) rfl rfl rfl n) (s_cons (s_loc (i := 5) rfl (by first | exact .inl rfl | exact .inr (.inl rfl) | exact .inr (.inr rfl))) (s_cons (s_bin k (s_loc (i := 1) rfl (by first | exact .inl rfl | exact .inr (.inl rfl) | exact .inr (.inr rfl))) s_int) (s_cons (s_loc (i := 2) rfl (by first | exact .inl rfl | exact .inr (.inl rfl) | exact .inr (.inr rfl))) s_nil)))) (s_lst s_nil)) (g_nm (i := 6) k rfl (by first | exact .inl rfl | exact .inr rfl)))
  (ss_cons
  (s_iff (t_cmp k (s_loc (i := 6) rfl (by first | exact .inl rfl | exact .inr (.inl rfl) | exact .inr (.inr rfl))) (s_lst s_nil)) (ss_cons
  (s_ret (s_lst (s_cons (s_tst2 (s_bin k (s_loc (i := 3) rfl (by first | exact .inl rfl | exact .inr (.inl rfl) | exact .inr (.inr rfl))) s_int) (s_sub k (s_loc (i := 6) rfl (by first | exact .inl rfl | exact .inr (.inl rfl) | exact .inr (.inr rfl))) s_int)) s_nil)))
  ss_nil) ss_nil)
  (ss_cons
  (s_iff (t_and (w_andc (t_cmp k (s_loc (i := 4) rfl (by first | exact .inl rfl | exact .inr (.inl rfl) | exact .inr (.inr rfl))) s_str) (w_and1 (t_not (t_call (c_call (d := d4) (dvs := dv4_3) (dd := []) A rfl rfl rfl rfl rfl k hr rfl rfl rfl (pb4_3) (by intro w H j; simp [f4, dv4_3, RepL, Rep]) rfl (fun n => run_dfl (g := f4) rfl rfl rfl n) (s_cons (s_loc (i := 4) rfl (by first | exact .inl rfl | exact .inr (.inl rfl) | exact .inr (.inr rfl))) (s_cons (s_loc (i := 5) rfl (by first | exact .inl rfl | exact .inr (.inl rfl) | exact .inr (.inr rfl))) (s_cons (s_loc (i := 2) rfl (by first | exact .inl rfl | exact .inr (.inl rfl) | exact .inr (.inr rfl))) s_nil))))))))) (ss_cons
  (s_ret (s_lst (s_cons (s_tup (s_cons (s_bin k (s_loc (i := 3) rfl (by first | exact .inl rfl | exact .inr (.inl rfl) | exact .inr (.inr rfl))) s_int) s_nil)) s_nil)))
  ss_nil) ss_nil)
  ss_nil)))))
  (ss_cons
  (s_ret (s_lst s_nil))
  ss_nil))))
theorem w6 {P : Program} {w : World} {K : PySem.W.Frag} {mg : Str → Option Value} {base : Heap} {cA : Nat → Addr} {n : Nat} {f : Addr} (Fc : Facts K w mg) (A : All P w K mg base cA F C dsc n) (cdv : Value) (Ar : Around) (outer : List PySem.Env) (s : Shared) (H : Hp) (E : XK) (hr : Room n (cxOf (L2.CX P w) P w K mg base d6.N d6.name d6.scope f cdv Ar outer s H E).A) (k : Kit (cxOf (L2.CX P w) P w K mg base d6.N d6.name d6.scope f cdv Ar outer s H E) E) (hp : PassesOwn (model P w) (cxOf (L2.CX P w) P w K mg base d6.N d6.name d6.scope f cdv Ar outer s H E).A (cxOf (L2.CX P w) P w K mg base d6.N d6.name d6.scope f cdv Ar outer s H E).env (cxOf (L2.CX P w) P w K mg base d6.N d6.name d6.scope f cdv Ar outer s H E).xe) :
    PSs (cxOf (L2.CX P w) P w K mg base d6.N d6.name d6.scope f cdv Ar outer s H E) d6.body (tS cA K w E (exs (run F C n) C f6.body)) :=
  (ss_cons
  (s_ret (c_call (d := d5) (dvs := dv5_3) (dd := []) A rfl rfl rfl rfl rfl k hr rfl rfl rfl (pb5_3) (by intro w H j; simp [f5, dv5_3, RepL, Rep]) rfl (fun n => run_dfl (g := f5) rfl rfl rfl n) (s_cons (s_loc (i := 0) rfl (by first | exact .inl rfl | exact .inr (.inl rfl) | exact .inr (.inr rfl))) (s_cons (c_glo (i := 6) rfl (Fc.cst 6 _ _ rfl rfl) rfl) (s_cons (c_glo (i := 2) rfl (Fc.cst 2 _ _ rfl rfl) rfl) s_nil)))))
  ss_nil)
theorem w7 {P : Program} {w : World} {K : PySem.W.Frag} {mg : Str → Option Value} {base : Heap} {cA : Nat → Addr} {n : Nat} {f : Addr} (Fc : Facts K w mg) (A : All P w K mg base cA F C dsc n) (cdv : Value) (Ar : Around) (outer : List PySem.Env) (s : Shared) (H : Hp) (E : XK) (hr : Room n (cxOf (L2.CX P w) P w K mg base d7.N d7.name d7.scope f cdv Ar outer s H E).A) (k : Kit (cxOf (L2.CX P w) P w K mg base d7.N d7.name d7.scope f cdv Ar outer s H E) E) (hp : PassesOwn (model P w) (cxOf (L2.CX P w) P w K mg base d7.N d7.name d7.scope f cdv Ar outer s H E).A (cxOf (L2.CX P w) P w K mg base d7.N d7.name d7.scope f cdv Ar outer s H E).env (cxOf (L2.CX P w) P w K mg base d7.N d7.name d7.scope f cdv Ar outer s H E).xe) :
    PSs (cxOf (L2.CX P w) P w K mg base d7.N d7.name d7.scope f cdv Ar outer s H E) d7.body (tS cA K w E (exs (run F C n) C f7.body)) :=
  (ss_cons
  (s_ret (s_lc k (i_enm rfl (Fc.no "enumerate" (by decide)) (s_sub k (c_glo (i := 4) rfl (Fc.cst 4 _ _ rfl rfl) rfl) (s_sub k (s_loc (i := 0) rfl (by first | exact .inl rfl | exact .inr (.inl rfl) | exact .inr (.inr rfl))) s_int))) (blkOk_by (own := [("index", 1), ("sign", 2)]) (by rfl)) rfl (fun _ _ _ _ _ => (g_tp (k.blk _ _ _ _ _) (g_tc (g_nm (i := 1) (k.blk _ _ _ _ _) rfl (by first | exact .inl rfl | exact .inr rfl)) (g_tc (g_nm (i := 2) (k.blk _ _ _ _ _) rfl (by first | exact .inl rfl | exact .inr rfl)) g_tn)))) (fun _ _ _ _ _ => (ts_one (t_cmp (k.blk _ _ _ _ _) (s_loc (i := 2) rfl (by first | exact .inl rfl | exact .inr (.inl rfl) | exact .inr (.inr rfl))) s_str))) (fun _ _ _ _ _ => (s_tup (s_cons (s_bin (k.blk _ _ _ _ _) (s_loc (i := 1) rfl (by first | exact .inl rfl | exact .inr (.inl rfl) | exact .inr (.inr rfl))) s_int) (s_cons (s_sub (k.blk _ _ _ _ _) (s_loc (i := 0) rfl (by first | exact .inl rfl | exact .inr (.inl rfl) | exact .inr (.inr rfl))) (s_bin (k.blk _ _ _ _ _) (s_loc (i := 1) rfl (by first | exact .inl rfl | exact .inr (.inl rfl) | exact .inr (.inr rfl))) s_int)) s_nil))))))
  ss_nil)
theorem w8 {P : Program} {w : World} {K : PySem.W.Frag} {mg : Str → Option Value} {base : Heap} {cA : Nat → Addr} {n : Nat} {f : Addr} (Fc : Facts K w mg) (A : All P w K mg base cA F C dsc n) (cdv : Value) (Ar : Around) (outer : List PySem.Env) (s : Shared) (H : Hp) (E : XK) (hr : Room n (cxOf (L2.CX P w) P w K mg base d8.N d8.name d8.scope f cdv Ar outer s H E).A) (k : Kit (cxOf (L2.CX P w) P w K mg base d8.N d8.name d8.scope f cdv Ar outer s H E) E) (hp : PassesOwn (model P w) (cxOf (L2.CX P w) P w K mg base d8.N d8.name d8.scope f cdv Ar outer s H E).A (cxOf (L2.CX P w) P w K mg base d8.N d8.name d8.scope f cdv Ar outer s H E).env (cxOf (L2.CX P w) P w K mg base d8.N d8.name d8.scope f cdv Ar outer s H E).xe) :
    PSs (cxOf (L2.CX P w) P w K mg base d8.N d8.name d8.scope f cdv Ar outer s H E) d8.body (tS cA K w E (exs (run F C n) C f8.body)) :=
  (ss_cons
  (s_ret (s_bin k s_int (s_bltB (b := .sum) (blt_sum k.gx) rfl (Fc.no "sum" (by decide)) bt_sum (s_cons (s_lc k (i_seq (c_call (d := d7) (dvs := dv7_1) (dd := []) A rfl rfl rfl rfl rfl k hr rfl rfl rfl (pb7_1) (by intro w H j; simp [f7, dv7_1, RepL, Rep]) rfl (fun n => run_dfl (g := f7) rfl rfl rfl n) (s_cons (s_loc (i := 0) rfl (by first | exact .inl rfl | exact .inr (.inl rfl) | exact .inr (.inr rfl))) s_nil))) (blkOk_by (own := [("_", 1), ("part", 2)]) (by rfl)) rfl (fun _ _ _ _ _ => (g_tp (k.blk _ _ _ _ _) (g_tc (g_nm (i := 1) (k.blk _ _ _ _ _) rfl (by first | exact .inl rfl | exact .inr rfl)) (g_tc (g_nm (i := 2) (k.blk _ _ _ _ _) rfl (by first | exact .inl rfl | exact .inr rfl)) g_tn)))) (fun _ _ _ _ _ => ts_nil) (fun _ _ _ _ _ => (c_call (d := d8) (dvs := dv8_1) (dd := []) A rfl rfl rfl rfl rfl (k.blk _ _ _ _ _) hr rfl rfl rfl (pb8_1) (by intro w H j; simp [f8, dv8_1, RepL, Rep]) rfl (fun n => run_dfl (g := f8) rfl rfl rfl n) (s_cons (s_loc (i := 2) rfl (by first | exact .inl rfl | exact .inr (.inl rfl) | exact .inr (.inr rfl))) s_nil)))) s_nil))))
  ss_nil)
theorem w9 {P : Program} {w : World} {K : PySem.W.Frag} {mg : Str → Option Value} {base : Heap} {cA : Nat → Addr} {n : Nat} {f : Addr} (Fc : Facts K w mg) (A : All P w K mg base cA F C dsc n) (cdv : Value) (Ar : Around) (outer : List PySem.Env) (s : Shared) (H : Hp) (E : XK) (hr : Room n (cxOf (L2.CX P w) P w K mg base d9.N d9.name d9.scope f cdv Ar outer s H E).A) (k : Kit (cxOf (L2.CX P w) P w K mg base d9.N d9.name d9.scope f cdv Ar outer s H E) E) (hp : PassesOwn (model P w) (cxOf (L2.CX P w) P w K mg base d9.N d9.name d9.scope f cdv Ar outer s H E).A (cxOf (L2.CX P w) P w K mg base d9.N d9.name d9.scope f cdv Ar outer s H E).env (cxOf (L2.CX P w) P w K mg base d9.N d9.name d9.scope f cdv Ar outer s H E).xe) :
    PSs (cxOf (L2.CX P w) P w K mg base d9.N d9.name d9.scope f cdv Ar outer s H E) d9.body (tS cA K w E (exs (run F C n) C f9.body)) :=
  (ss_cons
  (s_ret (s_bin k s_int (s_bltB (b := .max) (blt_max k.gx) rfl (Fc.no "max" (by decide)) bt_max (s_cons (s_bin k (s_lst (s_cons s_int s_nil)) (s_lc k (i_seq (c_call (d := d7) (dvs := dv7_1) (dd := []) A rfl rfl rfl rfl rfl k hr rfl rfl rfl (pb7_1) (by intro w H j; simp [f7, dv7_1, RepL, Rep]) rfl (fun n => run_dfl (g := f7) rfl rfl rfl n) (s_cons (s_loc (i := 0) rfl (by first | exact .inl rfl | exact .inr (.inl rfl) | exact .inr (.inr rfl))) s_nil))) (blkOk_by (own := [("_", 1), ("part", 2)]) (by rfl)) rfl (fun _ _ _ _ _ => (g_tp (k.blk _ _ _ _ _) (g_tc (g_nm (i := 1) (k.blk _ _ _ _ _) rfl (by first | exact .inl rfl | exact .inr rfl)) (g_tc (g_nm (i := 2) (k.blk _ _ _ _ _) rfl (by first | exact .inl rfl | exact .inr rfl)) g_tn)))) (fun _ _ _ _ _ => ts_nil) (fun _ _ _ _ _ => (c_call (d := d9) (dvs := dv9_1) (dd := []) A rfl rfl rfl rfl rfl (k.blk _ _ _ _ _) hr rfl rfl rfl (pb9_1) (by intro w H j; simp [f9, dv9_1, RepL, Rep]) rfl (fun n => run_dfl (g := f9) rfl rfl rfl n) (s_cons (s_loc (i := 2) rfl (by first | exact .inl rfl | exact .inr (.inl rfl) | exact .inr (.inr rfl))) s_nil))))) s_nil))))
  ss_nil)
theorem w10 {P : Program} {w : World} {K : PySem.W.Frag} {mg : Str → Option Value} {base : Heap} {cA : Nat → Addr} {n : Nat} {f : Addr} (Fc : Facts K w mg) (A : All P w K mg base cA F C dsc n) (cdv : Value) (Ar : Around) (outer : List PySem.Env) (s : Shared) (H : Hp) (E : XK) (hr : Room n (cxOf (L2.CX P w) P w K mg base d10.N d10.name d10.scope f cdv Ar outer s H E).A) (k : Kit (cxOf (L2.CX P w) P w K mg base d10.N d10.name d10.scope f cdv Ar outer s H E) E) (hp : PassesOwn (model P w) (cxOf (L2.CX P w) P w K mg base d10.N d10.name d10.scope f cdv Ar outer s H E).A (cxOf (L2.CX P w) P w K mg base d10.N d10.name d10.scope f cdv Ar outer s H E).env (cxOf (L2.CX P w) P w K mg base d10.N d10.name d10.scope f cdv Ar outer s H E).xe) :
    PSs (cxOf (L2.CX P w) P w K mg base d10.N d10.name d10.scope f cdv Ar outer s H E) d10.body (tS cA K w E (exs (run F C n) C f10.body)) :=
  (ss_cons
  (s_asg (s_loc (i := 0) rfl (by first | exact .inl rfl | exact .inr (.inl rfl) | exact .inr (.inr rfl))) (g_nm (i := 2) k rfl (by first | exact .inl rfl | exact .inr rfl)))
  (ss_cons
  (s_for hp k (i_seq (s_loc (i := 1) rfl (by first | exact .inl rfl | exact .inr (.inl rfl) | exact .inr (.inr rfl)))) (g_nm (i := 3) k rfl (by first | exact .inl rfl | exact .inr rfl)) (ss_cons
  (by first | exact (s_setLc (i := 4) k rfl rfl rfl rfl (by decide) (i_seq (c_call (d := d7) (dvs := dv7_1) (dd := []) A rfl rfl rfl rfl rfl k hr rfl rfl rfl (pb7_1) (by intro w H j; simp [f7, dv7_1, RepL, Rep]) rfl (fun n => run_dfl (g := f7) rfl rfl rfl n) (s_cons (s_loc (i := 2) rfl (by first | exact .inl rfl | exact .inr (.inl rfl) | exact .inr (.inr rfl))) s_nil))) (blkOk_by (own := [("at", 5), ("part", 6)]) (by rfl)) rfl (fun _ _ _ _ _ => (g_tp (k.blk _ _ _ _ _) (g_tc (g_nm (i := 5) (k.blk _ _ _ _ _) rfl (by first | exact .inl rfl | exact .inr rfl)) (g_tc (g_nm (i := 6) (k.blk _ _ _ _ _) rfl (by first | exact .inl rfl | exact .inr rfl)) g_tn)))) (fun _ _ _ _ _ => (ts_one (t_and (w_andc (t_call (c_call (d := d0) (dvs := dv0_1) (dd := []) A rfl rfl rfl rfl rfl (k.blk _ _ _ _ _) hr rfl rfl rfl (pb0_1) (by intro w H j; simp [f0, dv0_1, RepL, Rep]) rfl (fun n => run_dfl (g := f0) rfl rfl rfl n) (s_cons (s_loc (i := 3) rfl (by first | exact .inl rfl | exact .inr (.inl rfl) | exact .inr (.inr rfl))) s_nil))) (w_and1 (t_cmp (k.blk _ _ _ _ _) (s_loc (i := 5) rfl (by first | exact .inl rfl | exact .inr (.inl rfl) | exact .inr (.inr rfl))) (s_loc (i := 3) rfl (by first | exact .inl rfl | exact .inr (.inl rfl) | exact .inr (.inr rfl))))))))) (fun _ _ _ _ _ => (s_loc (i := 6) rfl (by first | exact .inl rfl | exact .inr (.inl rfl) | exact .inr (.inr rfl))))) | exact (s_asg (s_lc k (i_seq (c_call (d := d7) (dvs := dv7_1) (dd := []) A rfl rfl rfl rfl rfl k hr rfl rfl rfl (pb7_1) (by intro w H j; simp [f7, dv7_1, RepL, Rep]) rfl (fun n => run_dfl (g := f7) rfl rfl rfl n) (s_cons (s_loc (i := 2) rfl (by first | exact .inl rfl | exact .inr (.inl rfl) | exact .inr (.inr rfl))) s_nil))) (blkOk_by (own := [("at", 5), ("part", 6)]) (by rfl)) rfl (fun _ _ _ _ _ => (g_tp (k.blk _ _ _ _ _) (g_tc (g_nm (i := 5) (k.blk _ _ _ _ _) rfl (by first | exact .inl rfl | exact .inr rfl)) (g_tc (g_nm (i := 6) (k.blk _ _ _ _ _) rfl (by first | exact .inl rfl | exact .inr rfl)) g_tn)))) (fun _ _ _ _ _ => (ts_one (t_and (w_andc (t_call (c_call (d := d0) (dvs := dv0_1) (dd := []) A rfl rfl rfl rfl rfl (k.blk _ _ _ _ _) hr rfl rfl rfl (pb0_1) (by intro w H j; simp [f0, dv0_1, RepL, Rep]) rfl (fun n => run_dfl (g := f0) rfl rfl rfl n) (s_cons (s_loc (i := 3) rfl (by first | exact .inl rfl | exact .inr (.inl rfl) | exact .inr (.inr rfl))) s_nil))) (w_and1 (t_cmp (k.blk _ _ _ _ _) (s_loc (i := 5) rfl (by first | exact .inl rfl | exact .inr (.inl rfl) | exact .inr (.inr rfl))) (s_loc (i := 3) rfl (by first | exact .inl rfl | exact .inr (.inl rfl) | exact .inr (.inr rfl))))))))) (fun _ _ _ _ _ => (s_loc (i := 6) rfl (by first | exact .inl rfl | exact .inr (.inl rfl) | exact .inr (.inr rfl))))) (g_nm (i := 4) k rfl (by first | exact .inl rfl | exact .inr rfl))))
  (ss_cons
  (s_iff (t_cmp k (s_loc (i := 4) rfl (by first | exact .inl rfl | exact .inr (.inl rfl) | exact .inr (.inr rfl))) (s_lst s_nil)) (ss_cons
  (s_ret (s_lst s_nil))
  ss_nil) ss_nil)
  (ss_cons
  (s_asg (s_sub k (s_loc (i := 4) rfl (by first | exact .inl rfl | exact .inr (.inl rfl) | exact .inr (.inr rfl))) s_int) (g_nm (i := 2) k rfl (by first | exact .inl rfl | exact .inr rfl)))
  ss_nil))))
  (ss_cons
  (s_ret (s_lst (s_cons (s_loc (i := 2) rfl (by first | exact .inl rfl | exact .inr (.inl rfl) | exact .inr (.inr rfl))) s_nil)))
  ss_nil)))
theorem w11 {P : Program} {w : World} {K : PySem.W.Frag} {mg : Str → Option Value} {base : Heap} {cA : Nat → Addr} {n : Nat} {f : Addr} (Fc : Facts K w mg) (A : All P w K mg base cA F C dsc n) (cdv : Value) (Ar : Around) (outer : List PySem.Env) (s : Shared) (H : Hp) (E : XK) (hr : Room n (cxOf (L2.CX P w) P w K mg base d11.N d11.name d11.scope f cdv Ar outer s H E).A) (k : Kit (cxOf (L2.CX P w) P w K mg base d11.N d11.name d11.scope f cdv Ar outer s H E) E) (hp : PassesOwn (model P w) (cxOf (L2.CX P w) P w K mg base d11.N d11.name d11.scope f cdv Ar outer s H E).A (cxOf (L2.CX P w) P w K mg base d11.N d11.name d11.scope f cdv Ar outer s H E).env (cxOf (L2.CX P w) P w K mg base d11.N d11.name d11.scope f cdv Ar outer s H E).xe) :
    PSs (cxOf (L2.CX P w) P w K mg base d11.N d11.name d11.scope f cdv Ar outer s H E) d11.body (tS cA K w E (exs (run F C n) C f11.body)) :=
  (ss_cons
  (s_iff (t_or (w_orc (t_and (w_andc (t_cmp k (s_sub k (s_loc (i := 0) rfl (by first | exact .inl rfl | exact .inr (.inl rfl) | exact .inr (.inr rfl))) s_int) s_str) (w_and1 (t_cmp k (s_loc (i := 1) rfl (by first | exact .inl rfl | exact .inr (.inl rfl) | exact .inr (.inr rfl))) s_int)))) (w_or1 (t_and (w_andc (t_cmp k (s_sub k (s_loc (i := 0) rfl (by first | exact .inl rfl | exact .inr (.inl rfl) | exact .inr (.inr rfl))) s_int) s_str) (w_and1 (t_cmp k (s_loc (i := 1) rfl (by first | exact .inl rfl | exact .inr (.inl rfl) | exact .inr (.inr rfl))) s_int))))))) (ss_cons
  (s_ret (s_tup (s_cons (s_sub k (s_loc (i := 0) rfl (by first | exact .inl rfl | exact .inr (.inl rfl) | exact .inr (.inr rfl))) s_int) s_nil)))
  ss_nil) ss_nil)
  (ss_cons
  (s_iff (t_and (w_andc (t_cmp k (s_sub k (s_loc (i := 0) rfl (by first | exact .inl rfl | exact .inr (.inl rfl) | exact .inr (.inr rfl))) s_int) s_str) (w_and1 (t_cmp k (s_loc (i := 1) rfl (by first | exact .inl rfl | exact .inr (.inl rfl) | exact .inr (.inr rfl))) (s_tup (s_cons s_int (s_cons s_int s_nil))))))) (ss_cons
  (s_ret (s_tup (s_cons (s_sub k (s_loc (i := 0) rfl (by first | exact .inl rfl | exact .inr (.inl rfl) | exact .inr (.inr rfl))) (s_bin k (s_loc (i := 1) rfl (by first | exact .inl rfl | exact .inr (.inl rfl) | exact .inr (.inr rfl))) s_int)) s_nil)))
  ss_nil) ss_nil)
  (ss_cons
  (s_ret (s_tup s_nil))
  ss_nil)))
theorem w12 {P : Program} {w : World} {K : PySem.W.Frag} {mg : Str → Option Value} {base : Heap} {cA : Nat → Addr} {n : Nat} {f : Addr} (Fc : Facts K w mg) (A : All P w K mg base cA F C dsc n) (cdv : Value) (Ar : Around) (outer : List PySem.Env) (s : Shared) (H : Hp) (E : XK) (hr : Room n (cxOf (L2.CX P w) P w K mg base d12.N d12.name d12.scope f cdv Ar outer s H E).A) (k : Kit (cxOf (L2.CX P w) P w K mg base d12.N d12.name d12.scope f cdv Ar outer s H E) E) (hp : PassesOwn (model P w) (cxOf (L2.CX P w) P w K mg base d12.N d12.name d12.scope f cdv Ar outer s H E).A (cxOf (L2.CX P w) P w K mg base d12.N d12.name d12.scope f cdv Ar outer s H E).env (cxOf (L2.CX P w) P w K mg base d12.N d12.name d12.scope f cdv Ar outer s H E).xe) :
    PSs (cxOf (L2.CX P w) P w K mg base d12.N d12.name d12.scope f cdv Ar outer s H E) d12.body (tS cA K w E (exs (run F C n) C f12.body)) :=
  (ss_cons
  (s_iff (t_cmp k (s_sub k (s_loc (i := 0) rfl (by first | exact .inl rfl | exact .inr (.inl rfl) | exact .inr (.inr rfl))) s_int) s_str) (ss_cons
  (s_ret (s_lck (s_dspc (s_sub k (s_loc (i := 0) rfl (by first | exact .inl rfl | exact .inr (.inl rfl) | exact .inr (.inr rfl))) s_int) s_bl)))
  ss_nil) ss_nil)
  (ss_cons
  (s_asg s_dsm0 (g_nm (i := 1) k rfl (by first | exact .inl rfl | exact .inr rfl)))
  (ss_cons
  (s_for hp k (i_seq (c_call (d := d7) (dvs := dv7_1) (dd := []) A rfl rfl rfl rfl rfl k hr rfl rfl rfl (pb7_1) (by intro w H j; simp [f7, dv7_1, RepL, Rep]) rfl (fun n => run_dfl (g := f7) rfl rfl rfl n) (s_cons (s_loc (i := 0) rfl (by first | exact .inl rfl | exact .inr (.inl rfl) | exact .inr (.inr rfl))) s_nil))) (g_tp k (g_tc (g_nm (i := 2) k rfl (by first | exact .inl rfl | exact .inr rfl)) (g_tc (g_nm (i := 3) k rfl (by first | exact .inl rfl | exact .inr rfl)) g_tn))) (ss_cons
  (s_for hp k (i_seq (c_call (d := d12) (dvs := dv12_1) (dd := []) A rfl rfl rfl rfl rfl k hr rfl rfl rfl (pb12_1) (by intro w H j; simp [f12, dv12_1, RepL, Rep]) rfl (fun n => run_dfl (g := f12) rfl rfl rfl n) (s_cons (s_loc (i := 3) rfl (by first | exact .inl rfl | exact .inr (.inl rfl) | exact .inr (.inr rfl))) s_nil))) (g_nm (i := 4) k rfl (by first | exact .inl rfl | exact .inr rfl)) (ss_cons
  (s_iff (t_cmp k (s_loc (i := 4) rfl (by first | exact .inl rfl | exact .inr (.inl rfl) | exact .inr (.inr rfl))) (c_call (d := d11) (dvs := dv11_2) (dd := []) A rfl rfl rfl rfl rfl k hr rfl rfl rfl (pb11_2) (by intro w H j; simp [f11, dv11_2, RepL, Rep]) rfl (fun n => run_dfl (g := f11) rfl rfl rfl n) (s_cons (s_loc (i := 0) rfl (by first | exact .inl rfl | exact .inr (.inl rfl) | exact .inr (.inr rfl))) (s_cons (s_loc (i := 2) rfl (by first | exact .inl rfl | exact .inr (.inl rfl) | exact .inr (.inr rfl))) s_nil)))) (ss_cons
  (s_asg s_bl (g_sb k (s_loc (i := 1) rfl (by first | exact .inl rfl | exact .inr (.inl rfl) | exact .inr (.inr rfl))) (s_loc (i := 4) rfl (by first | exact .inl rfl | exact .inr (.inl rfl) | exact .inr (.inr rfl)))))
  ss_nil) ss_nil)
  ss_nil))
  ss_nil))
  (ss_cons
  (s_ret (s_lck (s_loc (i := 1) rfl (by first | exact .inl rfl | exact .inr (.inl rfl) | exact .inr (.inr rfl)))))
  ss_nil))))
theorem w13 {P : Program} {w : World} {K : PySem.W.Frag} {mg : Str → Option Value} {base : Heap} {cA : Nat → Addr} {n : Nat} {f : Addr} (Fc : Facts K w mg) (A : All P w K mg base cA F C dsc n) (cdv : Value) (Ar : Around) (outer : List PySem.Env) (s : Shared) (H : Hp) (E : XK) (hr : Room n (cxOf (L2.CX P w) P w K mg base d13.N d13.name d13.scope f cdv Ar outer s H E).A) (k : Kit (cxOf (L2.CX P w) P w K mg base d13.N d13.name d13.scope f cdv Ar outer s H E) E) (hp : PassesOwn (model P w) (cxOf (L2.CX P w) P w K mg base d13.N d13.name d13.scope f cdv Ar outer s H E).A (cxOf (L2.CX P w) P w K mg base d13.N d13.name d13.scope f cdv Ar outer s H E).env (cxOf (L2.CX P w) P w K mg base d13.N d13.name d13.scope f cdv Ar outer s H E).xe) :
    PSs (cxOf (L2.CX P w) P w K mg base d13.N d13.name d13.scope f cdv Ar outer s H E) d13.body (tS cA K w E (exs (run F C n) C f13.body)) :=
  (ss_cons
  (s_asg (c_call (d := d6) (dvs := dv6_1) (dd := []) A rfl rfl rfl rfl rfl k hr rfl rfl rfl (pb6_1) (by intro w H j; simp [f6, dv6_1, RepL, Rep]) rfl (fun n => run_dfl (g := f6) rfl rfl rfl n) (s_cons (s_loc (i := 0) rfl (by first | exact .inl rfl | exact .inr (.inl rfl) | exact .inr (.inr rfl))) s_nil)) (g_nm (i := 1) k rfl (by first | exact .inl rfl | exact .inr rfl)))
  (ss_cons
  (s_iff (t_cmp k (s_loc (i := 1) rfl (by first | exact .inl rfl | exact .inr (.inl rfl) | exact .inr (.inr rfl))) (s_lst s_nil)) (ss_cons
  s_rai
  ss_nil) ss_nil)
  ss_nil))
theorem w14 {P : Program} {w : World} {K : PySem.W.Frag} {mg : Str → Option Value} {base : Heap} {cA : Nat → Addr} {n : Nat} {f : Addr} (Fc : Facts K w mg) (A : All P w K mg base cA F C dsc n) (cdv : Value) (Ar : Around) (outer : List PySem.Env) (s : Shared) (H : Hp) (E : XK) (hr : Room n (cxOf (L2.CX P w) P w K mg base d14.N d14.name d14.scope f cdv Ar outer s H E).A) (k : Kit (cxOf (L2.CX P w) P w K mg base d14.N d14.name d14.scope f cdv Ar outer s H E) E) (hp : PassesOwn (model P w) (cxOf (L2.CX P w) P w K mg base d14.N d14.name d14.scope f cdv Ar outer s H E).A (cxOf (L2.CX P w) P w K mg base d14.N d14.name d14.scope f cdv Ar outer s H E).env (cxOf (L2.CX P w) P w K mg base d14.N d14.name d14.scope f cdv Ar outer s H E).xe) :
    PSs (cxOf (L2.CX P w) P w K mg base d14.N d14.name d14.scope f cdv Ar outer s H E) d14.body (tS cA K w E (exs (run F C n) C f14.body)) :=
  (ss_cons
  (s_exp (c_call (d := d13) (dvs := dv13_1) (dd := []) A rfl rfl rfl rfl rfl k hr rfl rfl rfl (pb13_1) (by intro w H j; simp [f13, dv13_1, RepL, Rep]) rfl (fun n => run_dfl (g := f13) rfl rfl rfl n) (s_cons (s_loc (i := 0) rfl (by first | exact .inl rfl | exact .inr (.inl rfl) | exact .inr (.inr rfl))) s_nil)))
  (ss_cons
  (s_ret (c_call (d := d8) (dvs := dv8_1) (dd := []) A rfl rfl rfl rfl rfl k hr rfl rfl rfl (pb8_1) (by intro w H j; simp [f8, dv8_1, RepL, Rep]) rfl (fun n => run_dfl (g := f8) rfl rfl rfl n) (s_cons (s_loc (i := 0) rfl (by first | exact .inl rfl | exact .inr (.inl rfl) | exact .inr (.inr rfl))) s_nil)))
  ss_nil))
theorem w15 {P : Program} {w : World} {K : PySem.W.Frag} {mg : Str → Option Value} {base : Heap} {cA : Nat → Addr} {n : Nat} {f : Addr} (Fc : Facts K w mg) (A : All P w K mg base cA F C dsc n) (cdv : Value) (Ar : Around) (outer : List PySem.Env) (s : Shared) (H : Hp) (E : XK) (hr : Room n (cxOf (L2.CX P w) P w K mg base d15.N d15.name d15.scope f cdv Ar outer s H E).A) (k : Kit (cxOf (L2.CX P w) P w K mg base d15.N d15.name d15.scope f cdv Ar outer s H E) E) (hp : PassesOwn (model P w) (cxOf (L2.CX P w) P w K mg base d15.N d15.name d15.scope f cdv Ar outer s H E).A (cxOf (L2.CX P w) P w K mg base d15.N d15.name d15.scope f cdv Ar outer s H E).env (cxOf (L2.CX P w) P w K mg base d15.N d15.name d15.scope f cdv Ar outer s H E).xe) :
    PSs (cxOf (L2.CX P w) P w K mg base d15.N d15.name d15.scope f cdv Ar outer s H E) d15.body (tS cA K w E (exs (run F C n) C f15.body)) :=
  (ss_cons
  (s_exp (c_call (d := d13) (dvs := dv13_1) (dd := []) A rfl rfl rfl rfl rfl k hr rfl rfl rfl (pb13_1) (by intro w H j; simp [f13, dv13_1, RepL, Rep]) rfl (fun n => run_dfl (g := f13) rfl rfl rfl n) (s_cons (s_loc (i := 0) rfl (by first | exact .inl rfl | exact .inr (.inl rfl) | exact .inr (.inr rfl))) s_nil)))
  (ss_cons
  (s_ret (c_call (d := d9) (dvs := dv9_1) (dd := []) A rfl rfl rfl rfl rfl k hr rfl rfl rfl (pb9_1) (by intro w H j; simp [f9, dv9_1, RepL, Rep]) rfl (fun n => run_dfl (g := f9) rfl rfl rfl n) (s_cons (s_loc (i := 0) rfl (by first | exact .inl rfl | exact .inr (.inl rfl) | exact .inr (.inr rfl))) s_nil)))
  ss_nil))
theorem w16 {P : Program} {w : World} {K : PySem.W.Frag} {mg : Str → Option Value} {base : Heap} {cA : Nat → Addr} {n : Nat} {f : Addr} (Fc : Facts K w mg) (A : All P w K mg base cA F C dsc n) (cdv : Value) (Ar : Around) (outer : List PySem.Env) (s : Shared) (H : Hp) (E : XK) (hr : Room n (cxOf (L2.CX P w) P w K mg base d16.N d16.name d16.scope f cdv Ar outer s H E).A) (k : Kit (cxOf (L2.CX P w) P w K mg base d16.N d16.name d16.scope f cdv Ar outer s H E) E) (hp : PassesOwn (model P w) (cxOf (L2.CX P w) P w K mg base d16.N d16.name d16.scope f cdv Ar outer s H E).A (cxOf (L2.CX P w) P w K mg base d16.N d16.name d16.scope f cdv Ar outer s H E).env (cxOf (L2.CX P w) P w K mg base d16.N d16.name d16.scope f cdv Ar outer s H E).xe) :
    PSs (cxOf (L2.CX P w) P w K mg base d16.N d16.name d16.scope f cdv Ar outer s H E) d16.body (tS cA K w E (exs (run F C n) C f16.body)) :=
  (ss_cons
  (s_exp (c_call (d := d13) (dvs := dv13_1) (dd := []) A rfl rfl rfl rfl rfl k hr rfl rfl rfl (pb13_1) (by intro w H j; simp [f13, dv13_1, RepL, Rep]) rfl (fun n => run_dfl (g := f13) rfl rfl rfl n) (s_cons (s_loc (i := 0) rfl (by first | exact .inl rfl | exact .inr (.inl rfl) | exact .inr (.inr rfl))) s_nil)))
  (ss_cons
  (s_ret (s_bltT (b := .tuple) blt_tuple rfl (Fc.no "tuple" (by decide)) bt_tuple (s_cons (s_bltB (b := .sorted) (blt_sorted k.gx) rfl (Fc.no "sorted" (by decide)) bt_sorted (s_cons (c_call (d := d12) (dvs := dv12_1) (dd := []) A rfl rfl rfl rfl rfl k hr rfl rfl rfl (pb12_1) (by intro w H j; simp [f12, dv12_1, RepL, Rep]) rfl (fun n => run_dfl (g := f12) rfl rfl rfl n) (s_cons (s_loc (i := 0) rfl (by first | exact .inl rfl | exact .inr (.inl rfl) | exact .inr (.inr rfl))) s_nil)) s_nil)) s_nil)))
  ss_nil))
theorem w17 {P : Program} {w : World} {K : PySem.W.Frag} {mg : Str → Option Value} {base : Heap} {cA : Nat → Addr} {n : Nat} {f : Addr} (Fc : Facts K w mg) (A : All P w K mg base cA F C dsc n) (cdv : Value) (Ar : Around) (outer : List PySem.Env) (s : Shared) (H : Hp) (E : XK) (hr : Room n (cxOf (L2.CX P w) P w K mg base d17.N d17.name d17.scope f cdv Ar outer s H E).A) (k : Kit (cxOf (L2.CX P w) P w K mg base d17.N d17.name d17.scope f cdv Ar outer s H E) E) (hp : PassesOwn (model P w) (cxOf (L2.CX P w) P w K mg base d17.N d17.name d17.scope f cdv Ar outer s H E).A (cxOf (L2.CX P w) P w K mg base d17.N d17.name d17.scope f cdv Ar outer s H E).env (cxOf (L2.CX P w) P w K mg base d17.N d17.name d17.scope f cdv Ar outer s H E).xe) :
    PSs (cxOf (L2.CX P w) P w K mg base d17.N d17.name d17.scope f cdv Ar outer s H E) d17.body (tS cA K w E (exs (run F C n) C f17.body)) :=
  (ss_cons
  (s_exp (c_call (d := d13) (dvs := dv13_1) (dd := []) A rfl rfl rfl rfl rfl k hr rfl rfl rfl (pb13_1) (by intro w H j; simp [f13, dv13_1, RepL, Rep]) rfl (fun n => run_dfl (g := f13) rfl rfl rfl n) (s_cons (s_loc (i := 0) rfl (by first | exact .inl rfl | exact .inr (.inl rfl) | exact .inr (.inr rfl))) s_nil)))
  (ss_cons
  (s_asg (s_ite (t_isi (s_isi (t := .tup) (by decide) bt_tuple rfl (Fc.no "isinstance" (by decide)) rfl (Fc.no "tuple" (by decide)) (s_loc (i := 1) rfl (by first | exact .inl rfl | exact .inr (.inl rfl) | exact .inr (.inr rfl))))) (c_call (d := d10) (dvs := dv10_2) (dd := []) A rfl rfl rfl rfl rfl k hr rfl rfl rfl (pb10_2) (by intro w H j; simp [f10, dv10_2, RepL, Rep]) rfl (fun n => run_dfl (g := f10) rfl rfl rfl n) (s_cons (s_loc (i := 0) rfl (by first | exact .inl rfl | exact .inr (.inl rfl) | exact .inr (.inr rfl))) (s_cons (s_loc (i := 1) rfl (by first | exact .inl rfl | exact .inr (.inl rfl) | exact .inr (.inr rfl))) s_nil))) (s_lst s_nil)) (g_nm (i := 2) k rfl (by first | exact .inl rfl | exact .inr rfl)))
  (ss_cons
  (s_ret (s_ite (t_cmp k (s_loc (i := 2) rfl (by first | exact .inl rfl | exact .inr (.inl rfl) | exact .inr (.inr rfl))) (s_lst s_nil)) (s_sub k (s_loc (i := 2) rfl (by first | exact .inl rfl | exact .inr (.inl rfl) | exact .inr (.inr rfl))) s_int) s_non))
  ss_nil)))
theorem w18 {P : Program} {w : World} {K : PySem.W.Frag} {mg : Str → Option Value} {base : Heap} {cA : Nat → Addr} {n : Nat} {f : Addr} (Fc : Facts K w mg) (A : All P w K mg base cA F C dsc n) (cdv : Value) (Ar : Around) (outer : List PySem.Env) (s : Shared) (H : Hp) (E : XK) (hr : Room n (cxOf (L2.CX P w) P w K mg base d18.N d18.name d18.scope f cdv Ar outer s H E).A) (k : Kit (cxOf (L2.CX P w) P w K mg base d18.N d18.name d18.scope f cdv Ar outer s H E) E) (hp : PassesOwn (model P w) (cxOf (L2.CX P w) P w K mg base d18.N d18.name d18.scope f cdv Ar outer s H E).A (cxOf (L2.CX P w) P w K mg base d18.N d18.name d18.scope f cdv Ar outer s H E).env (cxOf (L2.CX P w) P w K mg base d18.N d18.name d18.scope f cdv Ar outer s H E).xe) :
    PSs (cxOf (L2.CX P w) P w K mg base d18.N d18.name d18.scope f cdv Ar outer s H E) d18.body (tS cA K w E (exs (run F C n) C f18.body)) :=
  (ss_cons
  (s_asg (s_bin k s_int (s_bin k s_int (s_loc (i := 1) rfl (by first | exact .inl rfl | exact .inr (.inl rfl) | exact .inr (.inr rfl))))) (g_nm (i := 2) k rfl (by first | exact .inl rfl | exact .inr rfl)))
  (ss_cons
  (s_for hp k (i_seq (s_sli (s_loc (i := 0) rfl (by first | exact .inl rfl | exact .inr (.inl rfl) | exact .inr (.inr rfl))) o_no (o_so s_int))) (g_nm (i := 3) k rfl (by first | exact .inl rfl | exact .inr rfl)) (ss_cons
  (s_asg (s_bin k (s_bltT (b := .int) blt_int rfl (Fc.no "int" (by decide)) bt_int (s_cons (s_bin k (s_bin k (s_bin k (s_loc (i := 2) rfl (by first | exact .inl rfl | exact .inr (.inl rfl) | exact .inr (.inr rfl))) s_int) (s_bin k (s_bltT (b := .int) blt_int rfl (Fc.no "int" (by decide)) bt_int (s_cons (s_loc (i := 3) rfl (by first | exact .inl rfl | exact .inr (.inl rfl) | exact .inr (.inr rfl))) s_nil)) s_int)) s_int) s_nil)) s_int) (g_nm (i := 2) k rfl (by first | exact .inl rfl | exact .inr rfl)))
  ss_nil))
  (ss_cons
  (s_asg (s_ite (t_cmp k (s_loc (i := 1) rfl (by first | exact .inl rfl | exact .inr (.inl rfl) | exact .inr (.inr rfl))) (s_bltB (b := .len) blt_len rfl (Fc.no "len" (by decide)) bt_len (s_cons (s_loc (i := 0) rfl (by first | exact .inl rfl | exact .inr (.inl rfl) | exact .inr (.inr rfl))) s_nil))) (s_bltT (b := .int) blt_int rfl (Fc.no "int" (by decide)) bt_int (s_cons (s_sub k (s_loc (i := 0) rfl (by first | exact .inl rfl | exact .inr (.inl rfl) | exact .inr (.inr rfl))) (s_loc (i := 1) rfl (by first | exact .inl rfl | exact .inr (.inl rfl) | exact .inr (.inr rfl)))) s_nil)) s_int) (g_nm (i := 4) k rfl (by first | exact .inl rfl | exact .inr rfl)))
  (ss_cons
  (s_asg (s_bin k (s_bltT (b := .int) blt_int rfl (Fc.no "int" (by decide)) bt_int (s_cons (s_bin k (s_bin k (s_bin k (s_loc (i := 2) rfl (by first | exact .inl rfl | exact .inr (.inl rfl) | exact .inr (.inr rfl))) s_int) (s_bin k (s_bin k (s_bltT (b := .int) blt_int rfl (Fc.no "int" (by decide)) bt_int (s_cons (s_loc (i := 4) rfl (by first | exact .inl rfl | exact .inr (.inl rfl) | exact .inr (.inr rfl))) s_nil)) s_int) s_int)) s_int) s_nil)) s_int) (g_nm (i := 2) k rfl (by first | exact .inl rfl | exact .inr rfl)))
  (ss_cons
  (s_ret (s_lsm (s_cons (s_ite (t_or (w_orc (t_cmp k (s_loc (i := 4) rfl (by first | exact .inl rfl | exact .inr (.inl rfl) | exact .inr (.inr rfl))) s_int) (w_or1 (t_cmp k (s_loc (i := 4) rfl (by first | exact .inl rfl | exact .inr (.inl rfl) | exact .inr (.inr rfl))) (s_bin k s_int s_int))))) (s_bltB (b := .abs) blt_abs rfl (Fc.no "abs" (by decide)) bt_abs (s_cons (s_loc (i := 4) rfl (by first | exact .inl rfl | exact .inr (.inl rfl) | exact .inr (.inr rfl))) s_nil)) s_int) (s_cons (s_loc (i := 2) rfl (by first | exact .inl rfl | exact .inr (.inl rfl) | exact .inr (.inr rfl))) (s_cons s_int (s_cons s_int s_nil))))))
  ss_nil)))))
theorem w19 {P : Program} {w : World} {K : PySem.W.Frag} {mg : Str → Option Value} {base : Heap} {cA : Nat → Addr} {n : Nat} {f : Addr} (Fc : Facts K w mg) (A : All P w K mg base cA F C dsc n) (cdv : Value) (Ar : Around) (outer : List PySem.Env) (s : Shared) (H : Hp) (E : XK) (hr : Room n (cxOf (L2.CX P w) P w K mg base d19.N d19.name d19.scope f cdv Ar outer s H E).A) (k : Kit (cxOf (L2.CX P w) P w K mg base d19.N d19.name d19.scope f cdv Ar outer s H E) E) (hp : PassesOwn (model P w) (cxOf (L2.CX P w) P w K mg base d19.N d19.name d19.scope f cdv Ar outer s H E).A (cxOf (L2.CX P w) P w K mg base d19.N d19.name d19.scope f cdv Ar outer s H E).env (cxOf (L2.CX P w) P w K mg base d19.N d19.name d19.scope f cdv Ar outer s H E).xe) :
    PSs (cxOf (L2.CX P w) P w K mg base d19.N d19.name d19.scope f cdv Ar outer s H E) d19.body (tS cA K w E (exs (run F C n) C f19.body)) :=
  (ss_cons
  (s_iff (t_cmp k (s_sub k (s_loc (i := 0) rfl (by first | exact .inl rfl | exact .inr (.inl rfl) | exact .inr (.inr rfl))) s_int) s_int) (ss_cons
  (s_asg (s_bltB (b := .divmod) blt_divmod rfl (Fc.no "divmod" (by decide)) bt_divmod (s_cons (s_sub k (s_loc (i := 0) rfl (by first | exact .inl rfl | exact .inr (.inl rfl) | exact .inr (.inr rfl))) s_int) (s_cons (s_loc (i := 1) rfl (by first | exact .inl rfl | exact .inr (.inl rfl) | exact .inr (.inr rfl))) s_nil))) (g_tp k (g_tc (g_sb k (s_loc (i := 0) rfl (by first | exact .inl rfl | exact .inr (.inl rfl) | exact .inr (.inr rfl))) s_int) (g_tc (g_nm (i := 2) k rfl (by first | exact .inl rfl | exact .inr rfl)) g_tn))))
  (ss_cons
  (s_ret (s_loc (i := 2) rfl (by first | exact .inl rfl | exact .inr (.inl rfl) | exact .inr (.inr rfl))))
  ss_nil)) ss_nil)
  (ss_cons
  (s_asg (s_bin k (s_sub k (s_loc (i := 0) rfl (by first | exact .inl rfl | exact .inr (.inl rfl) | exact .inr (.inr rfl))) s_int) s_int) (g_sb k (s_loc (i := 0) rfl (by first | exact .inl rfl | exact .inr (.inl rfl) | exact .inr (.inr rfl))) s_int))
  (ss_cons
  (s_asg (s_bin k (s_bltT (b := .int) blt_int rfl (Fc.no "int" (by decide)) bt_int (s_cons (s_bin k (s_bin k (s_bin k (s_sub k (s_loc (i := 0) rfl (by first | exact .inl rfl | exact .inr (.inl rfl) | exact .inr (.inr rfl))) s_int) s_int) (s_bin k (s_bin k s_int (s_sub k (s_loc (i := 0) rfl (by first | exact .inl rfl | exact .inr (.inl rfl) | exact .inr (.inr rfl))) s_int)) (s_sub k (s_loc (i := 0) rfl (by first | exact .inl rfl | exact .inr (.inl rfl) | exact .inr (.inr rfl))) s_int))) s_int) s_nil)) s_int) (g_sb k (s_loc (i := 0) rfl (by first | exact .inl rfl | exact .inr (.inl rfl) | exact .inr (.inr rfl))) s_int))
  (ss_cons
  (s_ret (s_bin k (s_bltT (b := .int) blt_int rfl (Fc.no "int" (by decide)) bt_int (s_cons (s_bin k (s_sub k (s_loc (i := 0) rfl (by first | exact .inl rfl | exact .inr (.inl rfl) | exact .inr (.inr rfl))) s_int) s_int) s_nil)) (s_loc (i := 1) rfl (by first | exact .inl rfl | exact .inr (.inl rfl) | exact .inr (.inr rfl)))))
  ss_nil))))
theorem w20 {P : Program} {w : World} {K : PySem.W.Frag} {mg : Str → Option Value} {base : Heap} {cA : Nat → Addr} {n : Nat} {f : Addr} (Fc : Facts K w mg) (A : All P w K mg base cA F C dsc n) (cdv : Value) (Ar : Around) (outer : List PySem.Env) (s : Shared) (H : Hp) (E : XK) (hr : Room n (cxOf (L2.CX P w) P w K mg base d20.N d20.name d20.scope f cdv Ar outer s H E).A) (k : Kit (cxOf (L2.CX P w) P w K mg base d20.N d20.name d20.scope f cdv Ar outer s H E) E) (hp : PassesOwn (model P w) (cxOf (L2.CX P w) P w K mg base d20.N d20.name d20.scope f cdv Ar outer s H E).A (cxOf (L2.CX P w) P w K mg base d20.N d20.name d20.scope f cdv Ar outer s H E).env (cxOf (L2.CX P w) P w K mg base d20.N d20.name d20.scope f cdv Ar outer s H E).xe) :
    PSs (cxOf (L2.CX P w) P w K mg base d20.N d20.name d20.scope f cdv Ar outer s H E) d20.body (tS cA K w E (exs (run F C n) C f20.body)) :=
  (ss_cons
  (s_ret (s_sub k (s_loc (i := 1) rfl (by first | exact .inl rfl | exact .inr (.inl rfl) | exact .inr (.inr rfl))) (c_call (d := d19) (dvs := dv19_2) (dd := []) A rfl rfl rfl rfl rfl k hr rfl rfl rfl (pb19_2) (by intro w H j; simp [f19, dv19_2, RepL, Rep]) rfl (fun n => run_dfl (g := f19) rfl rfl rfl n) (s_cons (s_loc (i := 0) rfl (by first | exact .inl rfl | exact .inr (.inl rfl) | exact .inr (.inr rfl))) (s_cons (s_bltB (b := .len) blt_len rfl (Fc.no "len" (by decide)) bt_len (s_cons (s_loc (i := 1) rfl (by first | exact .inl rfl | exact .inr (.inl rfl) | exact .inr (.inr rfl))) s_nil)) s_nil)))))
  ss_nil)
theorem w21 {P : Program} {w : World} {K : PySem.W.Frag} {mg : Str → Option Value} {base : Heap} {cA : Nat → Addr} {n : Nat} {f : Addr} (Fc : Facts K w mg) (A : All P w K mg base cA F C dsc n) (cdv : Value) (Ar : Around) (outer : List PySem.Env) (s : Shared) (H : Hp) (E : XK) (hr : Room n (cxOf (L2.CX P w) P w K mg base d21.N d21.name d21.scope f cdv Ar outer s H E).A) (k : Kit (cxOf (L2.CX P w) P w K mg base d21.N d21.name d21.scope f cdv Ar outer s H E) E) (hp : PassesOwn (model P w) (cxOf (L2.CX P w) P w K mg base d21.N d21.name d21.scope f cdv Ar outer s H E).A (cxOf (L2.CX P w) P w K mg base d21.N d21.name d21.scope f cdv Ar outer s H E).env (cxOf (L2.CX P w) P w K mg base d21.N d21.name d21.scope f cdv Ar outer s H E).xe) :
    PSs (cxOf (L2.CX P w) P w K mg base d21.N d21.name d21.scope f cdv Ar outer s H E) d21.body (tS cA K w E (exs (run F C n) C f21.body)) :=
  (ss_cons
  (s_ret (s_cmp k (s_bltB (b := .repr) (blt_repr k.gx) rfl (Fc.no "repr" (by decide)) bt_repr (s_cons (s_loc (i := 0) rfl (by first | exact .inl rfl | exact .inr (.inl rfl) | exact .inr (.inr rfl))) s_nil)) (s_bltB (b := .repr) (blt_repr k.gx) rfl (Fc.no "repr" (by decide)) bt_repr (s_cons (s_loc (i := 1) rfl (by first | exact .inl rfl | exact .inr (.inl rfl) | exact .inr (.inr rfl))) s_nil))))
  ss_nil)
theorem w22 {P : Program} {w : World} {K : PySem.W.Frag} {mg : Str → Option Value} {base : Heap} {cA : Nat → Addr} {n : Nat} {f : Addr} (Fc : Facts K w mg) (A : All P w K mg base cA F C dsc n) (cdv : Value) (Ar : Around) (outer : List PySem.Env) (s : Shared) (H : Hp) (E : XK) (hr : Room n (cxOf (L2.CX P w) P w K mg base d22.N d22.name d22.scope f cdv Ar outer s H E).A) (k : Kit (cxOf (L2.CX P w) P w K mg base d22.N d22.name d22.scope f cdv Ar outer s H E) E) (hp : PassesOwn (model P w) (cxOf (L2.CX P w) P w K mg base d22.N d22.name d22.scope f cdv Ar outer s H E).A (cxOf (L2.CX P w) P w K mg base d22.N d22.name d22.scope f cdv Ar outer s H E).env (cxOf (L2.CX P w) P w K mg base d22.N d22.name d22.scope f cdv Ar outer s H E).xe) :
    PSs (cxOf (L2.CX P w) P w K mg base d22.N d22.name d22.scope f cdv Ar outer s H E) d22.body (tS cA K w E (exs (run F C n) C f22.body)) :=
  (ss_cons
  (s_asg (s_tup (s_cons s_non (s_cons s_bl (s_cons s_bl (s_cons s_int (s_cons s_int (s_cons (s_neg s_int) (s_cons s_int (s_cons (s_bin k s_int s_int) (s_cons s_str (s_cons s_str (s_cons s_str (s_cons s_str (s_cons s_str (s_cons s_str (s_cons s_str (s_cons (s_tup s_nil) (s_cons (s_tup (s_cons s_int s_nil)) (s_cons (s_tup (s_cons s_str s_nil)) s_nil))))))))))))))))))) (g_nm (i := 1) k rfl (by first | exact .inl rfl | exact .inr rfl)))
  (ss_cons
  (s_asg (s_tup (s_cons (s_tup (s_cons s_str (s_cons s_str s_nil))) (s_cons (s_tup (s_cons s_str (s_cons s_str s_nil))) (s_cons (s_tup (s_cons s_str (s_cons (s_tup (s_cons s_str (s_cons s_str s_nil))) s_nil))) (s_cons (s_tup (s_cons s_str s_nil)) (s_cons (s_tup (s_cons s_str (s_cons (s_tup (s_cons s_str s_nil)) (s_cons (s_tup (s_cons s_str s_nil)) s_nil)))) (s_cons (s_tup (s_cons s_str (s_cons s_int s_nil))) s_nil))))))) (g_nm (i := 2) k rfl (by first | exact .inl rfl | exact .inr rfl)))
  (ss_cons
  (s_asg (s_tup (s_cons (s_tup (s_cons s_str (s_cons (s_tup (s_cons s_str s_nil)) s_nil))) (s_cons (s_tup (s_cons s_str (s_cons s_str s_nil))) (s_cons (s_tup (s_cons s_str (s_cons s_str s_nil))) (s_cons (s_tup (s_cons s_str (s_cons s_bl s_nil))) (s_cons (s_tup (s_cons s_str (s_cons s_int s_nil))) (s_cons (s_lst s_nil) (s_cons (s_lst (s_cons s_str s_nil)) (s_cons s_dnil (s_cons s_str s_nil)))))))))) (g_nm (i := 3) k rfl (by first | exact .inl rfl | exact .inr rfl)))
  (ss_cons
  (s_ret (c_call (d := d20) (dvs := dv20_2) (dd := []) A rfl rfl rfl rfl rfl k hr rfl rfl rfl (pb20_2) (by intro w H j; simp [f20, dv20_2, RepL, Rep]) rfl (fun n => run_dfl (g := f20) rfl rfl rfl n) (s_cons (s_loc (i := 0) rfl (by first | exact .inl rfl | exact .inr (.inl rfl) | exact .inr (.inr rfl))) (s_cons (s_bin k (s_bin k (s_bin k (s_loc (i := 1) rfl (by first | exact .inl rfl | exact .inr (.inl rfl) | exact .inr (.inr rfl))) (s_loc (i := 2) rfl (by first | exact .inl rfl | exact .inr (.inl rfl) | exact .inr (.inr rfl)))) (s_loc (i := 3) rfl (by first | exact .inl rfl | exact .inr (.inl rfl) | exact .inr (.inr rfl)))) (s_tup (s_cons (s_tup (s_cons s_str (s_cons (s_tup (s_cons s_str s_nil)) (s_cons (s_tup (s_cons s_str s_nil)) s_nil)))) (s_cons s_str (s_cons (s_tup (s_cons (s_tup (s_cons s_str s_nil)) s_nil)) (s_cons (s_tup (s_cons (s_tup s_nil) (s_cons (s_tup s_nil) s_nil))) s_nil)))))) s_nil))))
  ss_nil))))
theorem w23 {P : Program} {w : World} {K : PySem.W.Frag} {mg : Str → Option Value} {base : Heap} {cA : Nat → Addr} {n : Nat} {f : Addr} (Fc : Facts K w mg) (A : All P w K mg base cA F C dsc n) (cdv : Value) (Ar : Around) (outer : List PySem.Env) (s : Shared) (H : Hp) (E : XK) (hr : Room n (cxOf (L2.CX P w) P w K mg base d23.N d23.name d23.scope f cdv Ar outer s H E).A) (k : Kit (cxOf (L2.CX P w) P w K mg base d23.N d23.name d23.scope f cdv Ar outer s H E) E) (hp : PassesOwn (model P w) (cxOf (L2.CX P w) P w K mg base d23.N d23.name d23.scope f cdv Ar outer s H E).A (cxOf (L2.CX P w) P w K mg base d23.N d23.name d23.scope f cdv Ar outer s H E).env (cxOf (L2.CX P w) P w K mg base d23.N d23.name d23.scope f cdv Ar outer s H E).xe) :
    PSs (cxOf (L2.CX P w) P w K mg base d23.N d23.name d23.scope f cdv Ar outer s H E) d23.body (tS cA K w E (exs (run F C n) C f23.body)) :=
  (ss_cons
  (s_asg (c_call (d := d19) (dvs := dv19_2) (dd := []) A rfl rfl rfl rfl rfl k hr rfl rfl rfl (pb19_2) (by intro w H j; simp [f19, dv19_2, RepL, Rep]) rfl (fun n => run_dfl (g := f19) rfl rfl rfl n) (s_cons (s_loc (i := 0) rfl (by first | exact .inl rfl | exact .inr (.inl rfl) | exact .inr (.inr rfl))) (s_cons s_int s_nil))) (g_nm (i := 1) k rfl (by first | exact .inl rfl | exact .inr rfl)))
  (ss_cons
  (s_iff (t_and (w_andc (t_cmp k (s_loc (i := 1) rfl (by first | exact .inl rfl | exact .inr (.inl rfl) | exact .inr (.inr rfl))) s_int) (w_and1 (t_cmp k (s_sub k (s_loc (i := 0) rfl (by first | exact .inl rfl | exact .inr (.inl rfl) | exact .inr (.inr rfl))) s_int) s_int)))) (ss_cons
  (s_asg (s_bin k (s_sub k (s_loc (i := 0) rfl (by first | exact .inl rfl | exact .inr (.inl rfl) | exact .inr (.inr rfl))) s_int) s_int) (g_sb k (s_loc (i := 0) rfl (by first | exact .inl rfl | exact .inr (.inl rfl) | exact .inr (.inr rfl))) s_int))
  (ss_cons
  (s_asg (s_bin k (s_bin k s_int s_int) s_int) (g_nm (i := 2) k rfl (by first | exact .inl rfl | exact .inr rfl)))
  (ss_cons
  (s_ret (c_call (d := d20) (dvs := dv20_2) (dd := []) A rfl rfl rfl rfl rfl k hr rfl rfl rfl (pb20_2) (by intro w H j; simp [f20, dv20_2, RepL, Rep]) rfl (fun n => run_dfl (g := f20) rfl rfl rfl n) (s_cons (s_loc (i := 0) rfl (by first | exact .inl rfl | exact .inr (.inl rfl) | exact .inr (.inr rfl))) (s_cons (s_tup (s_cons (s_bin k s_int s_int) (s_cons (s_bin k s_int (s_bin k s_int s_int)) (s_cons s_int (s_cons (s_neg s_int) (s_cons (s_loc (i := 2) rfl (by first | exact .inl rfl | exact .inr (.inl rfl) | exact .inr (.inr rfl))) (s_cons (s_bin k (s_neg s_int) (s_loc (i := 2) rfl (by first | exact .inl rfl | exact .inr (.inl rfl) | exact .inr (.inr rfl)))) (s_cons (s_bin k (s_bin k s_int s_int) s_int) s_nil)))))))) s_nil))))
  ss_nil))) ss_nil)
  (ss_cons
  (s_ret (s_ite (t_cmp k (s_loc (i := 1) rfl (by first | exact .inl rfl | exact .inr (.inl rfl) | exact .inr (.inr rfl))) s_int) (c_call (d := d19) (dvs := dv19_2) (dd := []) A rfl rfl rfl rfl rfl k hr rfl rfl rfl (pb19_2) (by intro w H j; simp [f19, dv19_2, RepL, Rep]) rfl (fun n => run_dfl (g := f19) rfl rfl rfl n) (s_cons (s_loc (i := 0) rfl (by first | exact .inl rfl | exact .inr (.inl rfl) | exact .inr (.inr rfl))) (s_cons s_int s_nil))) (s_bin k (c_call (d := d19) (dvs := dv19_2) (dd := []) A rfl rfl rfl rfl rfl k hr rfl rfl rfl (pb19_2) (by intro w H j; simp [f19, dv19_2, RepL, Rep]) rfl (fun n => run_dfl (g := f19) rfl rfl rfl n) (s_cons (s_loc (i := 0) rfl (by first | exact .inl rfl | exact .inr (.inl rfl) | exact .inr (.inr rfl))) (s_cons s_int s_nil))) s_int)))
  ss_nil)))
theorem w24 {P : Program} {w : World} {K : PySem.W.Frag} {mg : Str → Option Value} {base : Heap} {cA : Nat → Addr} {n : Nat} {f : Addr} (Fc : Facts K w mg) (A : All P w K mg base cA F C dsc n) (cdv : Value) (Ar : Around) (outer : List PySem.Env) (s : Shared) (H : Hp) (E : XK) (hr : Room n (cxOf (L2.CX P w) P w K mg base d24.N d24.name d24.scope f cdv Ar outer s H E).A) (k : Kit (cxOf (L2.CX P w) P w K mg base d24.N d24.name d24.scope f cdv Ar outer s H E) E) (hp : PassesOwn (model P w) (cxOf (L2.CX P w) P w K mg base d24.N d24.name d24.scope f cdv Ar outer s H E).A (cxOf (L2.CX P w) P w K mg base d24.N d24.name d24.scope f cdv Ar outer s H E).env (cxOf (L2.CX P w) P w K mg base d24.N d24.name d24.scope f cdv Ar outer s H E).xe) :
    PSs (cxOf (L2.CX P w) P w K mg base d24.N d24.name d24.scope f cdv Ar outer s H E) d24.body (tS cA K w E (exs (run F C n) C f24.body)) :=
  (ss_cons
  (s_asg (s_ite (t_cmp k (s_loc (i := 1) rfl (by first | exact .inl rfl | exact .inr (.inl rfl) | exact .inr (.inr rfl))) s_int) (c_call (d := d19) (dvs := dv19_2) (dd := []) A rfl rfl rfl rfl rfl k hr rfl rfl rfl (pb19_2) (by intro w H j; simp [f19, dv19_2, RepL, Rep]) rfl (fun n => run_dfl (g := f19) rfl rfl rfl n) (s_cons (s_loc (i := 0) rfl (by first | exact .inl rfl | exact .inr (.inl rfl) | exact .inr (.inr rfl))) (s_cons s_int s_nil))) (c_call (d := d19) (dvs := dv19_2) (dd := []) A rfl rfl rfl rfl rfl k hr rfl rfl rfl (pb19_2) (by intro w H j; simp [f19, dv19_2, RepL, Rep]) rfl (fun n => run_dfl (g := f19) rfl rfl rfl n) (s_cons (s_loc (i := 0) rfl (by first | exact .inl rfl | exact .inr (.inl rfl) | exact .inr (.inr rfl))) (s_cons s_int s_nil)))) (g_nm (i := 3) k rfl (by first | exact .inl rfl | exact .inr rfl)))
  (ss_cons
  (s_iff (t_cmp k (s_loc (i := 3) rfl (by first | exact .inl rfl | exact .inr (.inl rfl) | exact .inr (.inr rfl))) s_int) (ss_cons
  (s_iff (t_and (w_andc (t_cmp k (s_loc (i := 3) rfl (by first | exact .inl rfl | exact .inr (.inl rfl) | exact .inr (.inr rfl))) s_int) (w_and1 (t_cmp k (s_loc (i := 2) rfl (by first | exact .inl rfl | exact .inr (.inl rfl) | exact .inr (.inr rfl))) s_int)))) (ss_cons
  (s_ret (s_tup (s_cons s_str (s_cons (c_call (d := d20) (dvs := dv20_2) (dd := []) A rfl rfl rfl rfl rfl k hr rfl rfl rfl (pb20_2) (by intro w H j; simp [f20, dv20_2, RepL, Rep]) rfl (fun n => run_dfl (g := f20) rfl rfl rfl n) (s_cons (s_loc (i := 0) rfl (by first | exact .inl rfl | exact .inr (.inl rfl) | exact .inr (.inr rfl))) (s_cons (s_tup (s_cons s_str (s_cons s_str (s_cons s_str s_nil)))) s_nil))) s_nil))))
  ss_nil) ss_nil)
  (ss_cons
  (s_ret (s_ite (t_cmp k (s_loc (i := 3) rfl (by first | exact .inl rfl | exact .inr (.inl rfl) | exact .inr (.inr rfl))) s_int) (s_tup (s_cons s_str s_nil)) (s_tup (s_cons s_str s_nil))))
  ss_nil)) ss_nil)
  (ss_cons
  (s_asg (s_sub k (s_tup (s_cons s_str (s_cons s_str (s_cons s_str (s_cons s_str (s_cons s_str (s_cons s_str (s_cons s_str (s_cons s_str s_nil))))))))) (s_bin k (s_loc (i := 3) rfl (by first | exact .inl rfl | exact .inr (.inl rfl) | exact .inr (.inr rfl))) s_int)) (g_nm (i := 4) k rfl (by first | exact .inl rfl | exact .inr rfl)))
  (ss_cons
  (s_asg (c_call (d := d24) (dvs := dv24_3) (dd := []) A rfl rfl rfl rfl rfl k hr rfl rfl rfl (pb24_3) (by intro w H j; simp [f24, dv24_3, RepL, Rep]) rfl (fun n => run_dfl (g := f24) rfl rfl rfl n) (s_cons (s_loc (i := 0) rfl (by first | exact .inl rfl | exact .inr (.inl rfl) | exact .inr (.inr rfl))) (s_cons (s_bin k (s_loc (i := 1) rfl (by first | exact .inl rfl | exact .inr (.inl rfl) | exact .inr (.inr rfl))) s_int) (s_cons (s_loc (i := 2) rfl (by first | exact .inl rfl | exact .inr (.inl rfl) | exact .inr (.inr rfl))) s_nil)))) (g_nm (i := 5) k rfl (by first | exact .inl rfl | exact .inr rfl)))
  (ss_cons
  (s_iff (t_cmp k (s_loc (i := 4) rfl (by first | exact .inl rfl | exact .inr (.inl rfl) | exact .inr (.inr rfl))) s_str) (ss_cons
  (s_ret (s_tup (s_cons (s_loc (i := 4) rfl (by first | exact .inl rfl | exact .inr (.inl rfl) | exact .inr (.inr rfl))) (s_cons (s_loc (i := 5) rfl (by first | exact .inl rfl | exact .inr (.inl rfl) | exact .inr (.inr rfl))) s_nil))))
  ss_nil) ss_nil)
  (ss_cons
  (s_iff (t_and (w_andc (t_cmp k (s_loc (i := 4) rfl (by first | exact .inl rfl | exact .inr (.inl rfl) | exact .inr (.inr rfl))) s_str) (w_and1 (t_cmp k (s_loc (i := 2) rfl (by first | exact .inl rfl | exact .inr (.inl rfl) | exact .inr (.inr rfl))) (s_tup (s_cons s_int (s_cons s_int s_nil))))))) (ss_cons
  (s_asg s_str (g_nm (i := 4) k rfl (by first | exact .inl rfl | exact .inr rfl)))
  ss_nil) ss_nil)
  (ss_cons
  (s_ret (s_tup (s_cons (s_loc (i := 4) rfl (by first | exact .inl rfl | exact .inr (.inl rfl) | exact .inr (.inr rfl))) (s_cons (s_loc (i := 5) rfl (by first | exact .inl rfl | exact .inr (.inl rfl) | exact .inr (.inr rfl))) (s_cons (c_call (d := d24) (dvs := dv24_3) (dd := []) A rfl rfl rfl rfl rfl k hr rfl rfl rfl (pb24_3) (by intro w H j; simp [f24, dv24_3, RepL, Rep]) rfl (fun n => run_dfl (g := f24) rfl rfl rfl n) (s_cons (s_loc (i := 0) rfl (by first | exact .inl rfl | exact .inr (.inl rfl) | exact .inr (.inr rfl))) (s_cons (s_bin k (s_loc (i := 1) rfl (by first | exact .inl rfl | exact .inr (.inl rfl) | exact .inr (.inr rfl))) s_int) (s_cons (s_loc (i := 2) rfl (by first | exact .inl rfl | exact .inr (.inl rfl) | exact .inr (.inr rfl))) s_nil)))) s_nil)))))
  ss_nil)))))))
theorem w25 {P : Program} {w : World} {K : PySem.W.Frag} {mg : Str → Option Value} {base : Heap} {cA : Nat → Addr} {n : Nat} {f : Addr} (Fc : Facts K w mg) (A : All P w K mg base cA F C dsc n) (cdv : Value) (Ar : Around) (outer : List PySem.Env) (s : Shared) (H : Hp) (E : XK) (hr : Room n (cxOf (L2.CX P w) P w K mg base d25.N d25.name d25.scope f cdv Ar outer s H E).A) (k : Kit (cxOf (L2.CX P w) P w K mg base d25.N d25.name d25.scope f cdv Ar outer s H E) E) (hp : PassesOwn (model P w) (cxOf (L2.CX P w) P w K mg base d25.N d25.name d25.scope f cdv Ar outer s H E).A (cxOf (L2.CX P w) P w K mg base d25.N d25.name d25.scope f cdv Ar outer s H E).env (cxOf (L2.CX P w) P w K mg base d25.N d25.name d25.scope f cdv Ar outer s H E).xe) :
    PSs (cxOf (L2.CX P w) P w K mg base d25.N d25.name d25.scope f cdv Ar outer s H E) d25.body (tS cA K w E (exs (run F C n) C f25.body)) :=
  (ss_cons
  (s_asg (s_dsm (kvs := [(.inr "name", .str "n"), (.inr "fn", .str "nkt"), (.inr "call", .str "tt"), (.inr "let", .str "ntt"), (.inr "unit", .str ""), (.inr "number", .str "i"), (.inr "plus", .str "tt")]) (ks := [.inr "name", .inr "fn", .inr "call", .inr "let", .inr "unit", .inr "number", .inr "plus"]) (vs := [.str "n", .str "nkt", .str "tt", .str "ntt", .str "", .str "i", .str "tt"]) (ds := [(.str "n"), (.str "nkt"), (.str "tt"), (.str "ntt"), (.str ""), (.str "i"), (.str "tt")]) (pps_cons pe_str pe_str (pps_cons pe_str pe_str (pps_cons pe_str pe_str (pps_cons pe_str pe_str (pps_cons pe_str pe_str (pps_cons pe_str pe_str (pps_cons pe_str pe_str pps_nil))))))) (hr := by intro H j; simp [RepL, Rep])) (g_nm (i := 1) k rfl (by first | exact .inl rfl | exact .inr rfl)))
  (ss_cons
  (s_exp (s_upd (s_loc (i := 1) rfl (by first | exact .inl rfl | exact .inr (.inl rfl) | exact .inr (.inr rfl))) (s_dcst (kvs := [(.inr "times", .str "tt"), (.inr "minus", .str "t"), (.inr "is", .str "stt"), (.inr "pair", .str "tt"), (.inr "first", .str "t"), (.inr "second", .str "t"), (.inr "left", .str "tk")]) (ks := [.inr "times", .inr "minus", .inr "is", .inr "pair", .inr "first", .inr "second", .inr "left"]) (vs := [.str "tt", .str "t", .str "stt", .str "tt", .str "t", .str "t", .str "tk"]) (ds := [(.str "tt"), (.str "t"), (.str "stt"), (.str "tt"), (.str "t"), (.str "t"), (.str "tk")]) (pps_cons pe_str pe_str (pps_cons pe_str pe_str (pps_cons pe_str pe_str (pps_cons pe_str pe_str (pps_cons pe_str pe_str (pps_cons pe_str pe_str (pps_cons pe_str pe_str pps_nil))))))) (hr := by intro H j; simp [RepL, Rep]))))
  (ss_cons
  (s_exp (s_upd (s_loc (i := 1) rfl (by first | exact .inl rfl | exact .inr (.inl rfl) | exact .inr (.inr rfl))) (s_dcst (kvs := [(.inr "right", .str "kt"), (.inr "case", .str "tntnt"), (.inr "nil", .str "k"), (.inr "cons", .str "tt"), (.inr "fold", .str "ttt")]) (ks := [.inr "right", .inr "case", .inr "nil", .inr "cons", .inr "fold"]) (vs := [.str "kt", .str "tntnt", .str "k", .str "tt", .str "ttt"]) (ds := [(.str "kt"), (.str "tntnt"), (.str "k"), (.str "tt"), (.str "ttt")]) (pps_cons pe_str pe_str (pps_cons pe_str pe_str (pps_cons pe_str pe_str (pps_cons pe_str pe_str (pps_cons pe_str pe_str pps_nil))))) (hr := by intro H j; simp [RepL, Rep]))))
  (ss_cons
  (s_ret (s_get1 k (s_loc (i := 1) rfl (by first | exact .inl rfl | exact .inr (.inl rfl) | exact .inr (.inr rfl))) (s_loc (i := 0) rfl (by first | exact .inl rfl | exact .inr (.inl rfl) | exact .inr (.inr rfl)))))
  ss_nil))))
theorem w26 {P : Program} {w : World} {K : PySem.W.Frag} {mg : Str → Option Value} {base : Heap} {cA : Nat → Addr} {n : Nat} {f : Addr} (Fc : Facts K w mg) (A : All P w K mg base cA F C dsc n) (cdv : Value) (Ar : Around) (outer : List PySem.Env) (s : Shared) (H : Hp) (E : XK) (hr : Room n (cxOf (L2.CX P w) P w K mg base d26.N d26.name d26.scope f cdv Ar outer s H E).A) (k : Kit (cxOf (L2.CX P w) P w K mg base d26.N d26.name d26.scope f cdv Ar outer s H E) E) (hp : PassesOwn (model P w) (cxOf (L2.CX P w) P w K mg base d26.N d26.name d26.scope f cdv Ar outer s H E).A (cxOf (L2.CX P w) P w K mg base d26.N d26.name d26.scope f cdv Ar outer s H E).env (cxOf (L2.CX P w) P w K mg base d26.N d26.name d26.scope f cdv Ar outer s H E).xe) :
    PSs (cxOf (L2.CX P w) P w K mg base d26.N d26.name d26.scope f cdv Ar outer s H E) d26.body (tS cA K w E (exs (run F C n) C f26.body)) :=
  (ss_cons
  (s_iff (t_or (w_orc (t_not (t_isi (s_isi (t := .str) (by decide) bt_str rfl (Fc.no "isinstance" (by decide)) rfl (Fc.no "str" (by decide)) (s_loc (i := 0) rfl (by first | exact .inl rfl | exact .inr (.inl rfl) | exact .inr (.inr rfl)))))) (w_orc (t_not (t_chn k s_int (s_bltB (b := .len) blt_len rfl (Fc.no "len" (by decide)) bt_len (s_cons (s_loc (i := 0) rfl (by first | exact .inl rfl | exact .inr (.inl rfl) | exact .inr (.inr rfl))) s_nil)) s_int)) (w_or1 (t_cmp k (s_sub k (s_loc (i := 0) rfl (by first | exact .inl rfl | exact .inr (.inl rfl) | exact .inr (.inr rfl))) s_int) s_str))))) (ss_cons
  (s_ret s_bl)
  ss_nil) ss_nil)
  (ss_cons
  (s_asg (s_tup (s_cons s_str (s_cons s_str (s_cons s_str (s_cons s_str (s_cons s_str (s_cons s_str (s_cons s_str (s_cons s_str (s_cons s_str (s_cons s_str (s_cons s_str (s_cons s_str (s_cons s_str s_nil)))))))))))))) (g_nm (i := 1) k rfl (by first | exact .inl rfl | exact .inr rfl)))
  (ss_cons
  (s_iff (t_or (w_orc (t_cmp k (s_loc (i := 0) rfl (by first | exact .inl rfl | exact .inr (.inl rfl) | exact .inr (.inr rfl))) (s_loc (i := 1) rfl (by first | exact .inl rfl | exact .inr (.inl rfl) | exact .inr (.inr rfl)))) (w_or1 (t_cmp k (s_loc (i := 0) rfl (by first | exact .inl rfl | exact .inr (.inl rfl) | exact .inr (.inr rfl))) s_str)))) (ss_cons
  (s_ret s_bl)
  ss_nil) ss_nil)
  (ss_cons
  (s_ret (s_cmp k (s_lc k (i_seq (s_loc (i := 0) rfl (by first | exact .inl rfl | exact .inr (.inl rfl) | exact .inr (.inr rfl)))) (blkOk_by (own := [("_law_sign", 2)]) (by rfl)) rfl (fun _ _ _ _ _ => (g_nm (i := 2) (k.blk _ _ _ _ _) rfl (by first | exact .inl rfl | exact .inr rfl))) (fun _ _ _ _ _ => (ts_one (t_cmp (k.blk _ _ _ _ _) (s_loc (i := 2) rfl (by first | exact .inl rfl | exact .inr (.inl rfl) | exact .inr (.inr rfl))) s_str))) (fun _ _ _ _ _ => (s_loc (i := 2) rfl (by first | exact .inl rfl | exact .inr (.inl rfl) | exact .inr (.inr rfl))))) (s_lst s_nil)))
  ss_nil))))
theorem w27 {P : Program} {w : World} {K : PySem.W.Frag} {mg : Str → Option Value} {base : Heap} {cA : Nat → Addr} {n : Nat} {f : Addr} (Fc : Facts K w mg) (A : All P w K mg base cA F C dsc n) (cdv : Value) (Ar : Around) (outer : List PySem.Env) (s : Shared) (H : Hp) (E : XK) (hr : Room n (cxOf (L2.CX P w) P w K mg base d27.N d27.name d27.scope f cdv Ar outer s H E).A) (k : Kit (cxOf (L2.CX P w) P w K mg base d27.N d27.name d27.scope f cdv Ar outer s H E) E) (hp : PassesOwn (model P w) (cxOf (L2.CX P w) P w K mg base d27.N d27.name d27.scope f cdv Ar outer s H E).A (cxOf (L2.CX P w) P w K mg base d27.N d27.name d27.scope f cdv Ar outer s H E).env (cxOf (L2.CX P w) P w K mg base d27.N d27.name d27.scope f cdv Ar outer s H E).xe) :
    PSs (cxOf (L2.CX P w) P w K mg base d27.N d27.name d27.scope f cdv Ar outer s H E) d27.body (tS cA K w E (exs (run F C n) C f27.body)) :=
  (ss_cons
  (by first | exact (s_par (i := 5) (j := 6) k rfl rfl (by decide) rfl rfl (s_cons (c_call (d := d20) (dvs := dv20_2) (dd := []) A rfl rfl rfl rfl rfl k hr rfl rfl rfl (pb20_2) (by intro w H j; simp [f20, dv20_2, RepL, Rep]) rfl (fun n => run_dfl (g := f20) rfl rfl rfl n) (s_cons (s_loc (i := 0) rfl (by first | exact .inl rfl | exact .inr (.inl rfl) | exact .inr (.inr rfl))) (s_cons s_str s_nil))) (s_cons (c_call (d := d20) (dvs := dv20_2) (dd := []) A rfl rfl rfl rfl rfl k hr rfl rfl rfl (pb20_2) (by intro w H j; simp [f20, dv20_2, RepL, Rep]) rfl (fun n => run_dfl (g := f20) rfl rfl rfl n) (s_cons (s_loc (i := 0) rfl (by first | exact .inl rfl | exact .inr (.inl rfl) | exact .inr (.inr rfl))) (s_cons s_str s_nil))) s_nil)) rfl) | exact (s_asg (s_tup (s_cons (c_call (d := d20) (dvs := dv20_2) (dd := []) A rfl rfl rfl rfl rfl k hr rfl rfl rfl (pb20_2) (by intro w H j; simp [f20, dv20_2, RepL, Rep]) rfl (fun n => run_dfl (g := f20) rfl rfl rfl n) (s_cons (s_loc (i := 0) rfl (by first | exact .inl rfl | exact .inr (.inl rfl) | exact .inr (.inr rfl))) (s_cons s_str s_nil))) (s_cons (c_call (d := d20) (dvs := dv20_2) (dd := []) A rfl rfl rfl rfl rfl k hr rfl rfl rfl (pb20_2) (by intro w H j; simp [f20, dv20_2, RepL, Rep]) rfl (fun n => run_dfl (g := f20) rfl rfl rfl n) (s_cons (s_loc (i := 0) rfl (by first | exact .inl rfl | exact .inr (.inl rfl) | exact .inr (.inr rfl))) (s_cons s_str s_nil))) s_nil))) (g_tp k (g_tc (g_nm (i := 5) k rfl (by first | exact .inl rfl | exact .inr rfl)) (g_tc (g_nm (i := 6) k rfl (by first | exact .inl rfl | exact .inr rfl)) g_tn)))))
  (ss_cons
  (s_asg (s_bin k (s_loc (i := 5) rfl (by first | exact .inl rfl | exact .inr (.inl rfl) | exact .inr (.inr rfl))) (c_call (d := d20) (dvs := dv20_2) (dd := []) A rfl rfl rfl rfl rfl k hr rfl rfl rfl (pb20_2) (by intro w H j; simp [f20, dv20_2, RepL, Rep]) rfl (fun n => run_dfl (g := f20) rfl rfl rfl n) (s_cons (s_loc (i := 0) rfl (by first | exact .inl rfl | exact .inr (.inl rfl) | exact .inr (.inr rfl))) (s_cons (s_tup (s_cons s_str (s_cons s_str (s_cons s_str (s_cons s_str (s_cons s_str s_nil)))))) s_nil)))) (g_nm (i := 1) k rfl (by first | exact .inl rfl | exact .inr rfl)))
  (ss_cons
  (s_asg (s_bin k (s_loc (i := 1) rfl (by first | exact .inl rfl | exact .inr (.inl rfl) | exact .inr (.inr rfl))) (c_call (d := d20) (dvs := dv20_2) (dd := []) A rfl rfl rfl rfl rfl k hr rfl rfl rfl (pb20_2) (by intro w H j; simp [f20, dv20_2, RepL, Rep]) rfl (fun n => run_dfl (g := f20) rfl rfl rfl n) (s_cons (s_loc (i := 0) rfl (by first | exact .inl rfl | exact .inr (.inl rfl) | exact .inr (.inr rfl))) (s_cons (s_tup (s_cons s_str (s_cons s_str (s_cons s_str s_nil)))) s_nil)))) (g_nm (i := 2) k rfl (by first | exact .inl rfl | exact .inr rfl)))
  (ss_cons
  (s_asg (s_ite (t_cmp k (c_call (d := d19) (dvs := dv19_2) (dd := []) A rfl rfl rfl rfl rfl k hr rfl rfl rfl (pb19_2) (by intro w H j; simp [f19, dv19_2, RepL, Rep]) rfl (fun n => run_dfl (g := f19) rfl rfl rfl n) (s_cons (s_loc (i := 0) rfl (by first | exact .inl rfl | exact .inr (.inl rfl) | exact .inr (.inr rfl))) (s_cons s_int s_nil))) s_int) (s_sli (s_bin k (s_loc (i := 6) rfl (by first | exact .inl rfl | exact .inr (.inl rfl) | exact .inr (.inr rfl))) s_str) o_no (o_so s_int)) (s_loc (i := 6) rfl (by first | exact .inl rfl | exact .inr (.inl rfl) | exact .inr (.inr rfl)))) (g_nm (i := 3) k rfl (by first | exact .inl rfl | exact .inr rfl)))
  (ss_cons
  (s_asg (s_bin k (s_bin k (s_loc (i := 6) rfl (by first | exact .inl rfl | exact .inr (.inl rfl) | exact .inr (.inr rfl))) (s_loc (i := 5) rfl (by first | exact .inl rfl | exact .inr (.inl rfl) | exact .inr (.inr rfl)))) s_str) (g_nm (i := 4) k rfl (by first | exact .inl rfl | exact .inr rfl)))
  (ss_cons
  (s_ret (s_lst (s_cons (s_loc (i := 1) rfl (by first | exact .inl rfl | exact .inr (.inl rfl) | exact .inr (.inr rfl))) (s_cons (s_loc (i := 2) rfl (by first | exact .inl rfl | exact .inr (.inl rfl) | exact .inr (.inr rfl))) (s_cons (s_loc (i := 3) rfl (by first | exact .inl rfl | exact .inr (.inl rfl) | exact .inr (.inr rfl))) (s_cons (s_loc (i := 4) rfl (by first | exact .inl rfl | exact .inr (.inl rfl) | exact .inr (.inr rfl))) s_nil))))))
  ss_nil))))))
theorem w28 {P : Program} {w : World} {K : PySem.W.Frag} {mg : Str → Option Value} {base : Heap} {cA : Nat → Addr} {n : Nat} {f : Addr} (Fc : Facts K w mg) (A : All P w K mg base cA F C dsc n) (cdv : Value) (Ar : Around) (outer : List PySem.Env) (s : Shared) (H : Hp) (E : XK) (hr : Room n (cxOf (L2.CX P w) P w K mg base d28.N d28.name d28.scope f cdv Ar outer s H E).A) (k : Kit (cxOf (L2.CX P w) P w K mg base d28.N d28.name d28.scope f cdv Ar outer s H E) E) (hp : PassesOwn (model P w) (cxOf (L2.CX P w) P w K mg base d28.N d28.name d28.scope f cdv Ar outer s H E).A (cxOf (L2.CX P w) P w K mg base d28.N d28.name d28.scope f cdv Ar outer s H E).env (cxOf (L2.CX P w) P w K mg base d28.N d28.name d28.scope f cdv Ar outer s H E).xe) :
    PSs (cxOf (L2.CX P w) P w K mg base d28.N d28.name d28.scope f cdv Ar outer s H E) d28.body (tS cA K w E (exs (run F C n) C f28.body)) :=
  (ss_cons
  (s_asg (c_call (d := d19) (dvs := dv19_2) (dd := []) A rfl rfl rfl rfl rfl k hr rfl rfl rfl (pb19_2) (by intro w H j; simp [f19, dv19_2, RepL, Rep]) rfl (fun n => run_dfl (g := f19) rfl rfl rfl n) (s_cons (s_loc (i := 0) rfl (by first | exact .inl rfl | exact .inr (.inl rfl) | exact .inr (.inr rfl))) (s_cons s_int s_nil))) (g_nm (i := 2) k rfl (by first | exact .inl rfl | exact .inr rfl)))
  (ss_cons
  (s_iff (t_cmp k (s_loc (i := 2) rfl (by first | exact .inl rfl | exact .inr (.inl rfl) | exact .inr (.inr rfl))) s_int) (ss_cons
  (s_ret (s_tup (s_cons s_str (s_cons (c_call (d := d20) (dvs := dv20_2) (dd := []) A rfl rfl rfl rfl rfl k hr rfl rfl rfl (pb20_2) (by intro w H j; simp [f20, dv20_2, RepL, Rep]) rfl (fun n => run_dfl (g := f20) rfl rfl rfl n) (s_cons (s_loc (i := 0) rfl (by first | exact .inl rfl | exact .inr (.inl rfl) | exact .inr (.inr rfl))) (s_cons (s_loc (i := 1) rfl (by first | exact .inl rfl | exact .inr (.inl rfl) | exact .inr (.inr rfl))) s_nil))) s_nil))))
  ss_nil) ss_nil)
  (ss_cons
  (s_iff (t_cmp k (s_loc (i := 2) rfl (by first | exact .inl rfl | exact .inr (.inl rfl) | exact .inr (.inr rfl))) s_int) (ss_cons
  (s_ret (s_tup (s_cons s_str (s_cons (c_call (d := d23) (dvs := dv23_1) (dd := []) A rfl rfl rfl rfl rfl k hr rfl rfl rfl (pb23_1) (by intro w H j; simp [f23, dv23_1, RepL, Rep]) rfl (fun n => run_dfl (g := f23) rfl rfl rfl n) (s_cons (s_loc (i := 0) rfl (by first | exact .inl rfl | exact .inr (.inl rfl) | exact .inr (.inr rfl))) s_nil)) s_nil))))
  ss_nil) ss_nil)
  (ss_cons
  (s_ret (s_ite (t_cmp k (s_loc (i := 2) rfl (by first | exact .inl rfl | exact .inr (.inl rfl) | exact .inr (.inr rfl))) s_int) (s_tup (s_cons s_str s_nil)) (s_tup (s_cons s_str (s_cons (c_call (d := d24) (dvs := dv24_3) (dd := []) A rfl rfl rfl rfl rfl k hr rfl rfl rfl (pb24_3) (by intro w H j; simp [f24, dv24_3, RepL, Rep]) rfl (fun n => run_dfl (g := f24) rfl rfl rfl n) (s_cons (s_loc (i := 0) rfl (by first | exact .inl rfl | exact .inr (.inl rfl) | exact .inr (.inr rfl))) (s_cons s_int (s_cons s_int s_nil)))) s_nil)))))
  ss_nil))))
theorem w29 {P : Program} {w : World} {K : PySem.W.Frag} {mg : Str → Option Value} {base : Heap} {cA : Nat → Addr} {n : Nat} {f : Addr} (Fc : Facts K w mg) (A : All P w K mg base cA F C dsc n) (cdv : Value) (Ar : Around) (outer : List PySem.Env) (s : Shared) (H : Hp) (E : XK) (hr : Room n (cxOf (L2.CX P w) P w K mg base d29.N d29.name d29.scope f cdv Ar outer s H E).A) (k : Kit (cxOf (L2.CX P w) P w K mg base d29.N d29.name d29.scope f cdv Ar outer s H E) E) (hp : PassesOwn (model P w) (cxOf (L2.CX P w) P w K mg base d29.N d29.name d29.scope f cdv Ar outer s H E).A (cxOf (L2.CX P w) P w K mg base d29.N d29.name d29.scope f cdv Ar outer s H E).env (cxOf (L2.CX P w) P w K mg base d29.N d29.name d29.scope f cdv Ar outer s H E).xe) :
    PSs (cxOf (L2.CX P w) P w K mg base d29.N d29.name d29.scope f cdv Ar outer s H E) d29.body (tS cA K w E (exs (run F C n) C f29.body)) :=
  (ss_cons
  (s_iff (t_or (w_orc (t_cmp k (s_loc (i := 1) rfl (by first | exact .inl rfl | exact .inr (.inl rfl) | exact .inr (.inr rfl))) s_int) (w_or1 (t_cmp k (c_call (d := d19) (dvs := dv19_2) (dd := []) A rfl rfl rfl rfl rfl k hr rfl rfl rfl (pb19_2) (by intro w H j; simp [f19, dv19_2, RepL, Rep]) rfl (fun n => run_dfl (g := f19) rfl rfl rfl n) (s_cons (s_loc (i := 0) rfl (by first | exact .inl rfl | exact .inr (.inl rfl) | exact .inr (.inr rfl))) (s_cons s_int s_nil))) s_int)))) (ss_cons
  (s_ret (c_call (d := d28) (dvs := dv28_2) (dd := []) A rfl rfl rfl rfl rfl k hr rfl rfl rfl (pb28_2) (by intro w H j; simp [f28, dv28_2, RepL, Rep]) rfl (fun n => run_dfl (g := f28) rfl rfl rfl n) (s_cons (s_loc (i := 0) rfl (by first | exact .inl rfl | exact .inr (.inl rfl) | exact .inr (.inr rfl))) (s_cons (s_loc (i := 2) rfl (by first | exact .inl rfl | exact .inr (.inl rfl) | exact .inr (.inr rfl))) s_nil))))
  ss_nil) ss_nil)
  (ss_cons
  (s_asg (c_call (d := d20) (dvs := dv20_2) (dd := []) A rfl rfl rfl rfl rfl k hr rfl rfl rfl (pb20_2) (by intro w H j; simp [f20, dv20_2, RepL, Rep]) rfl (fun n => run_dfl (g := f20) rfl rfl rfl n) (s_cons (s_loc (i := 0) rfl (by first | exact .inl rfl | exact .inr (.inl rfl) | exact .inr (.inr rfl))) (s_cons (s_tup (s_cons s_str (s_cons s_str (s_cons s_str (s_cons s_str (s_cons s_str (s_cons s_str (s_cons s_str (s_cons s_str (s_cons s_str (s_cons s_str (s_cons s_str (s_cons s_str (s_cons s_str (s_cons s_str (s_cons s_str (s_cons s_str (s_cons s_str (s_cons s_str (s_cons s_str (s_cons s_str s_nil))))))))))))))))))))) s_nil))) (g_nm (i := 3) k rfl (by first | exact .inl rfl | exact .inr rfl)))
  (ss_cons
  (s_asg (s_lsm (s_cons (s_loc (i := 3) rfl (by first | exact .inl rfl | exact .inr (.inl rfl) | exact .inr (.inr rfl))) s_nil)) (g_nm (i := 4) k rfl (by first | exact .inl rfl | exact .inr rfl)))
  (ss_cons
  (s_for hp k (i_seq (c_call (d := d25) (dvs := dv25_1) (dd := []) A rfl rfl rfl rfl rfl k hr rfl rfl rfl (pb25_1) (by intro w H j; simp [f25, dv25_1, RepL, Rep]) rfl (fun n => run_dfl (g := f25) rfl rfl rfl n) (s_cons (s_loc (i := 3) rfl (by first | exact .inl rfl | exact .inr (.inl rfl) | exact .inr (.inr rfl))) s_nil))) (g_nm (i := 5) k rfl (by first | exact .inl rfl | exact .inr rfl)) (ss_cons
  (s_iff (t_cmp k (s_loc (i := 5) rfl (by first | exact .inl rfl | exact .inr (.inl rfl) | exact .inr (.inr rfl))) s_str) (ss_cons
  (s_exp (s_app (s_loc (i := 4) rfl (by first | exact .inl rfl | exact .inr (.inl rfl) | exact .inr (.inr rfl))) (c_call (d := d29) (dvs := dv29_3) (dd := []) A rfl rfl rfl rfl rfl k hr rfl rfl rfl (pb29_3) (by intro w H j; simp [f29, dv29_3, RepL, Rep]) rfl (fun n => run_dfl (g := f29) rfl rfl rfl n) (s_cons (s_loc (i := 0) rfl (by first | exact .inl rfl | exact .inr (.inl rfl) | exact .inr (.inr rfl))) (s_cons (s_bin k (s_loc (i := 1) rfl (by first | exact .inl rfl | exact .inr (.inl rfl) | exact .inr (.inr rfl))) s_int) (s_cons (s_loc (i := 2) rfl (by first | exact .inl rfl | exact .inr (.inl rfl) | exact .inr (.inr rfl))) s_nil))))))
  ss_nil) (ss_cons
  (s_iff (t_cmp k (s_loc (i := 5) rfl (by first | exact .inl rfl | exact .inr (.inl rfl) | exact .inr (.inr rfl))) s_str) (ss_cons
  (s_exp (s_app (s_loc (i := 4) rfl (by first | exact .inl rfl | exact .inr (.inl rfl) | exact .inr (.inr rfl))) (c_call (d := d20) (dvs := dv20_2) (dd := []) A rfl rfl rfl rfl rfl k hr rfl rfl rfl (pb20_2) (by intro w H j; simp [f20, dv20_2, RepL, Rep]) rfl (fun n => run_dfl (g := f20) rfl rfl rfl n) (s_cons (s_loc (i := 0) rfl (by first | exact .inl rfl | exact .inr (.inl rfl) | exact .inr (.inr rfl))) (s_cons (s_loc (i := 2) rfl (by first | exact .inl rfl | exact .inr (.inl rfl) | exact .inr (.inr rfl))) s_nil)))))
  ss_nil) (ss_cons
  (s_exp (s_app (s_loc (i := 4) rfl (by first | exact .inl rfl | exact .inr (.inl rfl) | exact .inr (.inr rfl))) (s_ite (t_cmp k (s_loc (i := 5) rfl (by first | exact .inl rfl | exact .inr (.inl rfl) | exact .inr (.inr rfl))) s_str) (c_call (d := d24) (dvs := dv24_3) (dd := []) A rfl rfl rfl rfl rfl k hr rfl rfl rfl (pb24_3) (by intro w H j; simp [f24, dv24_3, RepL, Rep]) rfl (fun n => run_dfl (g := f24) rfl rfl rfl n) (s_cons (s_loc (i := 0) rfl (by first | exact .inl rfl | exact .inr (.inl rfl) | exact .inr (.inr rfl))) (s_cons s_int (s_cons s_int s_nil)))) (c_call (d := d20) (dvs := dv20_2) (dd := []) A rfl rfl rfl rfl rfl k hr rfl rfl rfl (pb20_2) (by intro w H j; simp [f20, dv20_2, RepL, Rep]) rfl (fun n => run_dfl (g := f20) rfl rfl rfl n) (s_cons (s_loc (i := 0) rfl (by first | exact .inl rfl | exact .inr (.inl rfl) | exact .inr (.inr rfl))) (s_cons (s_tup (s_cons s_str (s_cons s_str (s_cons s_str s_nil)))) s_nil))))))
  ss_nil))
  ss_nil))
  ss_nil))
  (ss_cons
  (s_ret (s_bltT (b := .tuple) blt_tuple rfl (Fc.no "tuple" (by decide)) bt_tuple (s_cons (s_loc (i := 4) rfl (by first | exact .inl rfl | exact .inr (.inl rfl) | exact .inr (.inr rfl))) s_nil)))
  ss_nil)))))
theorem w30 {P : Program} {w : World} {K : PySem.W.Frag} {mg : Str → Option Value} {base : Heap} {cA : Nat → Addr} {n : Nat} {f : Addr} (Fc : Facts K w mg) (A : All P w K mg base cA F C dsc n) (cdv : Value) (Ar : Around) (outer : List PySem.Env) (s : Shared) (H : Hp) (E : XK) (hr : Room n (cxOf (L2.CX P w) P w K mg base d30.N d30.name d30.scope f cdv Ar outer s H E).A) (k : Kit (cxOf (L2.CX P w) P w K mg base d30.N d30.name d30.scope f cdv Ar outer s H E) E) (hp : PassesOwn (model P w) (cxOf (L2.CX P w) P w K mg base d30.N d30.name d30.scope f cdv Ar outer s H E).A (cxOf (L2.CX P w) P w K mg base d30.N d30.name d30.scope f cdv Ar outer s H E).env (cxOf (L2.CX P w) P w K mg base d30.N d30.name d30.scope f cdv Ar outer s H E).xe) :
    PSs (cxOf (L2.CX P w) P w K mg base d30.N d30.name d30.scope f cdv Ar outer s H E) d30.body (tS cA K w E (exs (run F C n) C f30.body)) :=
  (ss_cons
  (s_asg (c_call (d := d28) (dvs := dv28_2) (dd := []) A rfl rfl rfl rfl rfl k hr rfl rfl rfl (pb28_2) (by intro w H j; simp [f28, dv28_2, RepL, Rep]) rfl (fun n => run_dfl (g := f28) rfl rfl rfl n) (s_cons (s_loc (i := 0) rfl (by first | exact .inl rfl | exact .inr (.inl rfl) | exact .inr (.inr rfl))) (s_cons (s_loc (i := 2) rfl (by first | exact .inl rfl | exact .inr (.inl rfl) | exact .inr (.inr rfl))) s_nil))) (g_nm (i := 3) k rfl (by first | exact .inl rfl | exact .inr rfl)))
  (ss_cons
  (s_for hp k (i_rg1 rfl (Fc.no "range" (by decide)) (s_bin k (s_loc (i := 1) rfl (by first | exact .inl rfl | exact .inr (.inl rfl) | exact .inr (.inr rfl))) s_int)) (g_nm (i := 4) k rfl (by first | exact .inl rfl | exact .inr rfl)) (ss_cons
  (s_asg (s_ite (t_cmp k (s_loc (i := 4) rfl (by first | exact .inl rfl | exact .inr (.inl rfl) | exact .inr (.inr rfl))) s_int) (c_call (d := d19) (dvs := dv19_2) (dd := []) A rfl rfl rfl rfl rfl k hr rfl rfl rfl (pb19_2) (by intro w H j; simp [f19, dv19_2, RepL, Rep]) rfl (fun n => run_dfl (g := f19) rfl rfl rfl n) (s_cons (s_loc (i := 0) rfl (by first | exact .inl rfl | exact .inr (.inl rfl) | exact .inr (.inr rfl))) (s_cons s_int s_nil))) (s_bin k (s_bltT (b := .int) blt_int rfl (Fc.no "int" (by decide)) bt_int (s_cons (s_loc (i := 4) rfl (by first | exact .inl rfl | exact .inr (.inl rfl) | exact .inr (.inr rfl))) s_nil)) s_int)) (g_nm (i := 5) k rfl (by first | exact .inl rfl | exact .inr rfl)))
  (ss_cons
  (s_iff (t_cmp k (s_loc (i := 5) rfl (by first | exact .inl rfl | exact .inr (.inl rfl) | exact .inr (.inr rfl))) s_int) (ss_cons
  (s_asg (s_tup (s_cons s_str (s_cons (s_loc (i := 3) rfl (by first | exact .inl rfl | exact .inr (.inl rfl) | exact .inr (.inr rfl))) s_nil))) (g_nm (i := 3) k rfl (by first | exact .inl rfl | exact .inr rfl)))
  ss_nil) (ss_cons
  (s_iff (t_cmp k (s_loc (i := 5) rfl (by first | exact .inl rfl | exact .inr (.inl rfl) | exact .inr (.inr rfl))) s_int) (ss_cons
  (s_asg (s_tup (s_cons s_str (s_cons (s_tup (s_cons s_str (s_cons (s_sub k (s_loc (i := 2) rfl (by first | exact .inl rfl | exact .inr (.inl rfl) | exact .inr (.inr rfl))) s_int) s_nil))) (s_cons (s_loc (i := 3) rfl (by first | exact .inl rfl | exact .inr (.inl rfl) | exact .inr (.inr rfl))) s_nil)))) (g_nm (i := 3) k rfl (by first | exact .inl rfl | exact .inr rfl)))
  ss_nil) (ss_cons
  (s_iff (t_cmp k (s_loc (i := 5) rfl (by first | exact .inl rfl | exact .inr (.inl rfl) | exact .inr (.inr rfl))) s_int) (ss_cons
  (s_asg (s_tup (s_cons s_str (s_cons (s_sub k (s_loc (i := 2) rfl (by first | exact .inl rfl | exact .inr (.inl rfl) | exact .inr (.inr rfl))) s_int) (s_cons (s_loc (i := 3) rfl (by first | exact .inl rfl | exact .inr (.inl rfl) | exact .inr (.inr rfl))) (s_cons (s_tup (s_cons s_str (s_cons (s_sub k (s_loc (i := 2) rfl (by first | exact .inl rfl | exact .inr (.inl rfl) | exact .inr (.inr rfl))) s_int) s_nil))) s_nil))))) (g_nm (i := 3) k rfl (by first | exact .inl rfl | exact .inr rfl)))
  ss_nil) (ss_cons
  (s_asg (s_ite (t_cmp k (s_loc (i := 5) rfl (by first | exact .inl rfl | exact .inr (.inl rfl) | exact .inr (.inr rfl))) s_int) (s_tup (s_cons s_str (s_cons (s_loc (i := 3) rfl (by first | exact .inl rfl | exact .inr (.inl rfl) | exact .inr (.inr rfl))) s_nil))) (s_tup (s_cons s_str (s_cons (s_tup (s_cons s_str s_nil)) (s_cons (s_loc (i := 3) rfl (by first | exact .inl rfl | exact .inr (.inl rfl) | exact .inr (.inr rfl))) (s_cons (s_tup (s_cons s_str s_nil)) s_nil)))))) (g_nm (i := 3) k rfl (by first | exact .inl rfl | exact .inr rfl)))
  ss_nil))
  ss_nil))
  ss_nil))
  ss_nil)))
  (ss_cons
  (s_ret (s_loc (i := 3) rfl (by first | exact .inl rfl | exact .inr (.inl rfl) | exact .inr (.inr rfl))))
  ss_nil)))
theorem w31 {P : Program} {w : World} {K : PySem.W.Frag} {mg : Str → Option Value} {base : Heap} {cA : Nat → Addr} {n : Nat} {f : Addr} (Fc : Facts K w mg) (A : All P w K mg base cA F C dsc n) (cdv : Value) (Ar : Around) (outer : List PySem.Env) (s : Shared) (H : Hp) (E : XK) (hr : Room n (cxOf (L2.CX P w) P w K mg base d31.N d31.name d31.scope f cdv Ar outer s H E).A) (k : Kit (cxOf (L2.CX P w) P w K mg base d31.N d31.name d31.scope f cdv Ar outer s H E) E) (hp : PassesOwn (model P w) (cxOf (L2.CX P w) P w K mg base d31.N d31.name d31.scope f cdv Ar outer s H E).A (cxOf (L2.CX P w) P w K mg base d31.N d31.name d31.scope f cdv Ar outer s H E).env (cxOf (L2.CX P w) P w K mg base d31.N d31.name d31.scope f cdv Ar outer s H E).xe) :
    PSs (cxOf (L2.CX P w) P w K mg base d31.N d31.name d31.scope f cdv Ar outer s H E) d31.body (tS cA K w E (exs (run F C n) C f31.body)) :=
  (ss_cons
  (s_iff (t_cmp k (s_loc (i := 1) rfl (by first | exact .inl rfl | exact .inr (.inl rfl) | exact .inr (.inr rfl))) s_int) (ss_cons
  (s_ret (c_call (d := d28) (dvs := dv28_2) (dd := []) A rfl rfl rfl rfl rfl k hr rfl rfl rfl (pb28_2) (by intro w H j; simp [f28, dv28_2, RepL, Rep]) rfl (fun n => run_dfl (g := f28) rfl rfl rfl n) (s_cons (s_loc (i := 0) rfl (by first | exact .inl rfl | exact .inr (.inl rfl) | exact .inr (.inr rfl))) (s_cons (s_loc (i := 2) rfl (by first | exact .inl rfl | exact .inr (.inl rfl) | exact .inr (.inr rfl))) s_nil))))
  ss_nil) ss_nil)
  (ss_cons
  (s_asg (c_call (d := d20) (dvs := dv20_2) (dd := []) A rfl rfl rfl rfl rfl k hr rfl rfl rfl (pb20_2) (by intro w H j; simp [f20, dv20_2, RepL, Rep]) rfl (fun n => run_dfl (g := f20) rfl rfl rfl n) (s_cons (s_loc (i := 0) rfl (by first | exact .inl rfl | exact .inr (.inl rfl) | exact .inr (.inr rfl))) (s_cons (s_tup (s_cons s_str (s_cons s_str (s_cons s_str (s_cons s_str (s_cons s_str s_nil)))))) s_nil))) (g_nm (i := 3) k rfl (by first | exact .inl rfl | exact .inr rfl)))
  (ss_cons
  (s_asg (c_call (d := d31) (dvs := dv31_3) (dd := []) A rfl rfl rfl rfl rfl k hr rfl rfl rfl (pb31_3) (by intro w H j; simp [f31, dv31_3, RepL, Rep]) rfl (fun n => run_dfl (g := f31) rfl rfl rfl n) (s_cons (s_loc (i := 0) rfl (by first | exact .inl rfl | exact .inr (.inl rfl) | exact .inr (.inr rfl))) (s_cons (s_bin k (s_loc (i := 1) rfl (by first | exact .inl rfl | exact .inr (.inl rfl) | exact .inr (.inr rfl))) s_int) (s_cons (s_loc (i := 2) rfl (by first | exact .inl rfl | exact .inr (.inl rfl) | exact .inr (.inr rfl))) s_nil)))) (g_nm (i := 4) k rfl (by first | exact .inl rfl | exact .inr rfl)))
  (ss_cons
  (s_ret (s_tup (s_cons (s_loc (i := 3) rfl (by first | exact .inl rfl | exact .inr (.inl rfl) | exact .inr (.inr rfl))) (s_cons (s_loc (i := 4) rfl (by first | exact .inl rfl | exact .inr (.inl rfl) | exact .inr (.inr rfl))) (s_cons (c_call (d := d31) (dvs := dv31_3) (dd := []) A rfl rfl rfl rfl rfl k hr rfl rfl rfl (pb31_3) (by intro w H j; simp [f31, dv31_3, RepL, Rep]) rfl (fun n => run_dfl (g := f31) rfl rfl rfl n) (s_cons (s_loc (i := 0) rfl (by first | exact .inl rfl | exact .inr (.inl rfl) | exact .inr (.inr rfl))) (s_cons (s_bin k (s_loc (i := 1) rfl (by first | exact .inl rfl | exact .inr (.inl rfl) | exact .inr (.inr rfl))) (s_bin k (s_loc (i := 1) rfl (by first | exact .inl rfl | exact .inr (.inl rfl) | exact .inr (.inr rfl))) s_int)) (s_cons (s_loc (i := 2) rfl (by first | exact .inl rfl | exact .inr (.inl rfl) | exact .inr (.inr rfl))) s_nil)))) s_nil)))))
  ss_nil))))
theorem w32 {P : Program} {w : World} {K : PySem.W.Frag} {mg : Str → Option Value} {base : Heap} {cA : Nat → Addr} {n : Nat} {f : Addr} (Fc : Facts K w mg) (A : All P w K mg base cA F C dsc n) (cdv : Value) (Ar : Around) (outer : List PySem.Env) (s : Shared) (H : Hp) (E : XK) (hr : Room n (cxOf (L2.CX P w) P w K mg base d32.N d32.name d32.scope f cdv Ar outer s H E).A) (k : Kit (cxOf (L2.CX P w) P w K mg base d32.N d32.name d32.scope f cdv Ar outer s H E) E) (hp : PassesOwn (model P w) (cxOf (L2.CX P w) P w K mg base d32.N d32.name d32.scope f cdv Ar outer s H E).A (cxOf (L2.CX P w) P w K mg base d32.N d32.name d32.scope f cdv Ar outer s H E).env (cxOf (L2.CX P w) P w K mg base d32.N d32.name d32.scope f cdv Ar outer s H E).xe) :
    PSs (cxOf (L2.CX P w) P w K mg base d32.N d32.name d32.scope f cdv Ar outer s H E) d32.body (tS cA K w E (exs (run F C n) C f32.body)) :=
  (ss_cons
  (by first | exact (s_par (i := 4) (j := 5) k rfl rfl (by decide) rfl rfl (s_cons (s_lst (s_cons (s_tup (s_cons (s_loc (i := 1) rfl (by first | exact .inl rfl | exact .inr (.inl rfl) | exact .inr (.inr rfl))) (s_cons (s_loc (i := 0) rfl (by first | exact .inl rfl | exact .inr (.inl rfl) | exact .inr (.inr rfl))) (s_cons (s_loc (i := 2) rfl (by first | exact .inl rfl | exact .inr (.inl rfl) | exact .inr (.inr rfl))) s_nil)))) s_nil)) (s_cons (c_call (d := d25) (dvs := dv25_1) (dd := []) A rfl rfl rfl rfl rfl k hr rfl rfl rfl (pb25_1) (by intro w H j; simp [f25, dv25_1, RepL, Rep]) rfl (fun n => run_dfl (g := f25) rfl rfl rfl n) (s_cons (s_sub k (s_loc (i := 0) rfl (by first | exact .inl rfl | exact .inr (.inl rfl) | exact .inr (.inr rfl))) s_int) s_nil)) s_nil)) rfl) | exact (s_asg (s_tup (s_cons (s_lst (s_cons (s_tup (s_cons (s_loc (i := 1) rfl (by first | exact .inl rfl | exact .inr (.inl rfl) | exact .inr (.inr rfl))) (s_cons (s_loc (i := 0) rfl (by first | exact .inl rfl | exact .inr (.inl rfl) | exact .inr (.inr rfl))) (s_cons (s_loc (i := 2) rfl (by first | exact .inl rfl | exact .inr (.inl rfl) | exact .inr (.inr rfl))) s_nil)))) s_nil)) (s_cons (c_call (d := d25) (dvs := dv25_1) (dd := []) A rfl rfl rfl rfl rfl k hr rfl rfl rfl (pb25_1) (by intro w H j; simp [f25, dv25_1, RepL, Rep]) rfl (fun n => run_dfl (g := f25) rfl rfl rfl n) (s_cons (s_sub k (s_loc (i := 0) rfl (by first | exact .inl rfl | exact .inr (.inl rfl) | exact .inr (.inr rfl))) s_int) s_nil)) s_nil))) (g_tp k (g_tc (g_nm (i := 4) k rfl (by first | exact .inl rfl | exact .inr rfl)) (g_tc (g_nm (i := 5) k rfl (by first | exact .inl rfl | exact .inr rfl)) g_tn)))))
  (ss_cons
  (s_for hp k (i_rg2 rfl (Fc.no "range" (by decide)) s_int (s_bltB (b := .len) blt_len rfl (Fc.no "len" (by decide)) bt_len (s_cons (s_loc (i := 0) rfl (by first | exact .inl rfl | exact .inr (.inl rfl) | exact .inr (.inr rfl))) s_nil))) (g_nm (i := 3) k rfl (by first | exact .inl rfl | exact .inr rfl)) (ss_cons
  (s_iff (t_cmp k (s_sub k (s_loc (i := 5) rfl (by first | exact .inl rfl | exact .inr (.inl rfl) | exact .inr (.inr rfl))) (s_bin k (s_loc (i := 3) rfl (by first | exact .inl rfl | exact .inr (.inl rfl) | exact .inr (.inr rfl))) s_int)) s_str) (ss_cons
  s_cnt
  ss_nil) ss_nil)
  (ss_cons
  (s_asg (s_loc (i := 2) rfl (by first | exact .inl rfl | exact .inr (.inl rfl) | exact .inr (.inr rfl))) (g_nm (i := 6) k rfl (by first | exact .inl rfl | exact .inr rfl)))
  (ss_cons
  (s_iff (t_and (w_andc (t_cmp k (s_sub k (s_loc (i := 0) rfl (by first | exact .inl rfl | exact .inr (.inl rfl) | exact .inr (.inr rfl))) s_int) (s_tup (s_cons s_str (s_cons s_str s_nil)))) (w_and1 (t_cmp k (s_loc (i := 3) rfl (by first | exact .inl rfl | exact .inr (.inl rfl) | exact .inr (.inr rfl))) s_int)))) (ss_cons
  (s_asg (s_bin k (s_loc (i := 2) rfl (by first | exact .inl rfl | exact .inr (.inl rfl) | exact .inr (.inr rfl))) (s_tup (s_cons (s_sub k (s_loc (i := 0) rfl (by first | exact .inl rfl | exact .inr (.inl rfl) | exact .inr (.inr rfl))) s_int) s_nil))) (g_nm (i := 6) k rfl (by first | exact .inl rfl | exact .inr rfl)))
  ss_nil) (ss_cons
  (s_iff (t_and (w_andc (t_cmp k (s_sub k (s_loc (i := 0) rfl (by first | exact .inl rfl | exact .inr (.inl rfl) | exact .inr (.inr rfl))) s_int) s_str) (w_and1 (t_cmp k (s_loc (i := 3) rfl (by first | exact .inl rfl | exact .inr (.inl rfl) | exact .inr (.inr rfl))) (s_tup (s_cons s_int (s_cons s_int s_nil))))))) (ss_cons
  (s_asg (s_bin k (s_loc (i := 2) rfl (by first | exact .inl rfl | exact .inr (.inl rfl) | exact .inr (.inr rfl))) (s_tup (s_cons (s_sub k (s_loc (i := 0) rfl (by first | exact .inl rfl | exact .inr (.inl rfl) | exact .inr (.inr rfl))) (s_bin k (s_loc (i := 3) rfl (by first | exact .inl rfl | exact .inr (.inl rfl) | exact .inr (.inr rfl))) s_int)) s_nil))) (g_nm (i := 6) k rfl (by first | exact .inl rfl | exact .inr rfl)))
  ss_nil) ss_nil)
  ss_nil))
  (ss_cons
  (s_asg (s_bin k (s_loc (i := 4) rfl (by first | exact .inl rfl | exact .inr (.inl rfl) | exact .inr (.inr rfl))) (c_call (d := d32) (dvs := dv32_3) (dd := []) A rfl rfl rfl rfl rfl k hr rfl rfl rfl (pb32_3) (by intro w H j; simp [f32, dv32_3, RepL, Rep]) rfl (fun n => run_dfl (g := f32) rfl rfl rfl n) (s_cons (s_sub k (s_loc (i := 0) rfl (by first | exact .inl rfl | exact .inr (.inl rfl) | exact .inr (.inr rfl))) (s_loc (i := 3) rfl (by first | exact .inl rfl | exact .inr (.inl rfl) | exact .inr (.inr rfl)))) (s_cons (s_bin k (s_loc (i := 1) rfl (by first | exact .inl rfl | exact .inr (.inl rfl) | exact .inr (.inr rfl))) (s_tup (s_cons (s_loc (i := 3) rfl (by first | exact .inl rfl | exact .inr (.inl rfl) | exact .inr (.inr rfl))) s_nil))) (s_cons (s_loc (i := 6) rfl (by first | exact .inl rfl | exact .inr (.inl rfl) | exact .inr (.inr rfl))) s_nil))))) (g_nm (i := 4) k rfl (by first | exact .inl rfl | exact .inr rfl)))
  ss_nil)))))
  (ss_cons
  (s_ret (s_loc (i := 4) rfl (by first | exact .inl rfl | exact .inr (.inl rfl) | exact .inr (.inr rfl))))
  ss_nil)))
theorem w33 {P : Program} {w : World} {K : PySem.W.Frag} {mg : Str → Option Value} {base : Heap} {cA : Nat → Addr} {n : Nat} {f : Addr} (Fc : Facts K w mg) (A : All P w K mg base cA F C dsc n) (cdv : Value) (Ar : Around) (outer : List PySem.Env) (s : Shared) (H : Hp) (E : XK) (hr : Room n (cxOf (L2.CX P w) P w K mg base d33.N d33.name d33.scope f cdv Ar outer s H E).A) (k : Kit (cxOf (L2.CX P w) P w K mg base d33.N d33.name d33.scope f cdv Ar outer s H E) E) (hp : PassesOwn (model P w) (cxOf (L2.CX P w) P w K mg base d33.N d33.name d33.scope f cdv Ar outer s H E).A (cxOf (L2.CX P w) P w K mg base d33.N d33.name d33.scope f cdv Ar outer s H E).env (cxOf (L2.CX P w) P w K mg base d33.N d33.name d33.scope f cdv Ar outer s H E).xe) :
    PSs (cxOf (L2.CX P w) P w K mg base d33.N d33.name d33.scope f cdv Ar outer s H E) d33.body (tS cA K w E (exs (run F C n) C f33.body)) :=
  (ss_cons
  (s_asg (s_lsm s_nil) (g_nm (i := 1) k rfl (by first | exact .inl rfl | exact .inr rfl)))
  (ss_cons
  (s_for hp k (i_seq (s_loc (i := 0) rfl (by first | exact .inl rfl | exact .inr (.inl rfl) | exact .inr (.inr rfl)))) (g_tp k (g_tc (g_nm (i := 2) k rfl (by first | exact .inl rfl | exact .inr rfl)) (g_tc (g_nm (i := 3) k rfl (by first | exact .inl rfl | exact .inr rfl)) (g_tc (g_nm (i := 4) k rfl (by first | exact .inl rfl | exact .inr rfl)) g_tn)))) (ss_cons
  (s_iff (t_and (w_andc (t_cmp k (s_sub k (s_loc (i := 3) rfl (by first | exact .inl rfl | exact .inr (.inl rfl) | exact .inr (.inr rfl))) s_int) s_str) (w_andc (t_cmp k (s_sub k (s_loc (i := 3) rfl (by first | exact .inl rfl | exact .inr (.inl rfl) | exact .inr (.inr rfl))) s_int) (s_loc (i := 4) rfl (by first | exact .inl rfl | exact .inr (.inl rfl) | exact .inr (.inr rfl)))) (w_and1 (t_cmp k (s_sub k (s_loc (i := 3) rfl (by first | exact .inl rfl | exact .inr (.inl rfl) | exact .inr (.inr rfl))) s_int) (s_loc (i := 1) rfl (by first | exact .inl rfl | exact .inr (.inl rfl) | exact .inr (.inr rfl)))))))) (ss_cons
  (s_exp (s_app (s_loc (i := 1) rfl (by first | exact .inl rfl | exact .inr (.inl rfl) | exact .inr (.inr rfl))) (s_sub k (s_loc (i := 3) rfl (by first | exact .inl rfl | exact .inr (.inl rfl) | exact .inr (.inr rfl))) s_int)))
  ss_nil) ss_nil)
  ss_nil))
  (ss_cons
  (s_ret (s_bltT (b := .tuple) blt_tuple rfl (Fc.no "tuple" (by decide)) bt_tuple (s_cons (s_bltB (b := .sorted) (blt_sorted k.gx) rfl (Fc.no "sorted" (by decide)) bt_sorted (s_cons (s_loc (i := 1) rfl (by first | exact .inl rfl | exact .inr (.inl rfl) | exact .inr (.inr rfl))) s_nil)) s_nil)))
  ss_nil)))
theorem w34 {P : Program} {w : World} {K : PySem.W.Frag} {mg : Str → Option Value} {base : Heap} {cA : Nat → Addr} {n : Nat} {f : Addr} (Fc : Facts K w mg) (A : All P w K mg base cA F C dsc n) (cdv : Value) (Ar : Around) (outer : List PySem.Env) (s : Shared) (H : Hp) (E : XK) (hr : Room n (cxOf (L2.CX P w) P w K mg base d34.N d34.name d34.scope f cdv Ar outer s H E).A) (k : Kit (cxOf (L2.CX P w) P w K mg base d34.N d34.name d34.scope f cdv Ar outer s H E) E) (hp : PassesOwn (model P w) (cxOf (L2.CX P w) P w K mg base d34.N d34.name d34.scope f cdv Ar outer s H E).A (cxOf (L2.CX P w) P w K mg base d34.N d34.name d34.scope f cdv Ar outer s H E).env (cxOf (L2.CX P w) P w K mg base d34.N d34.name d34.scope f cdv Ar outer s H E).xe) :
    PSs (cxOf (L2.CX P w) P w K mg base d34.N d34.name d34.scope f cdv Ar outer s H E) d34.body (tS cA K w E (exs (run F C n) C f34.body)) :=
  (ss_cons
  (s_iff (t_not (t_isi (s_isi (t := .tup) (by decide) bt_tuple rfl (Fc.no "isinstance" (by decide)) rfl (Fc.no "tuple" (by decide)) (s_loc (i := 1) rfl (by first | exact .inl rfl | exact .inr (.inl rfl) | exact .inr (.inr rfl)))))) (ss_cons
  (s_ret (s_lst s_nil))
  ss_nil) ss_nil)
  (ss_cons
  (s_asg (s_loc (i := 0) rfl (by first | exact .inl rfl | exact .inr (.inl rfl) | exact .inr (.inr rfl))) (g_nm (i := 2) k rfl (by first | exact .inl rfl | exact .inr rfl)))
  (ss_cons
  (s_for hp k (i_seq (s_loc (i := 1) rfl (by first | exact .inl rfl | exact .inr (.inl rfl) | exact .inr (.inr rfl)))) (g_nm (i := 3) k rfl (by first | exact .inl rfl | exact .inr rfl)) (ss_cons
  (s_iff (t_or (w_orc (t_not (t_isi (s_isi (t := .int) (by decide) bt_int rfl (Fc.no "isinstance" (by decide)) rfl (Fc.no "int" (by decide)) (s_loc (i := 3) rfl (by first | exact .inl rfl | exact .inr (.inl rfl) | exact .inr (.inr rfl)))))) (w_orc (t_isi (s_isi (t := .bool) (by decide) bt_bool rfl (Fc.no "isinstance" (by decide)) rfl (Fc.no "bool" (by decide)) (s_loc (i := 3) rfl (by first | exact .inl rfl | exact .inr (.inl rfl) | exact .inr (.inr rfl))))) (w_or1 (t_not (t_chn k s_int (s_loc (i := 3) rfl (by first | exact .inl rfl | exact .inr (.inl rfl) | exact .inr (.inr rfl))) (s_bltB (b := .len) blt_len rfl (Fc.no "len" (by decide)) bt_len (s_cons (s_loc (i := 2) rfl (by first | exact .inl rfl | exact .inr (.inl rfl) | exact .inr (.inr rfl))) s_nil)))))))) (ss_cons
  (s_ret (s_lst s_nil))
  ss_nil) ss_nil)
  (ss_cons
  (s_iff (t_cmp k (s_sub k (c_call (d := d25) (dvs := dv25_1) (dd := []) A rfl rfl rfl rfl rfl k hr rfl rfl rfl (pb25_1) (by intro w H j; simp [f25, dv25_1, RepL, Rep]) rfl (fun n => run_dfl (g := f25) rfl rfl rfl n) (s_cons (s_sub k (s_loc (i := 2) rfl (by first | exact .inl rfl | exact .inr (.inl rfl) | exact .inr (.inr rfl))) s_int) s_nil)) (s_bin k (s_loc (i := 3) rfl (by first | exact .inl rfl | exact .inr (.inl rfl) | exact .inr (.inr rfl))) s_int)) s_str) (ss_cons
  (s_ret (s_lst s_nil))
  ss_nil) ss_nil)
  (ss_cons
  (s_asg (s_sub k (s_loc (i := 2) rfl (by first | exact .inl rfl | exact .inr (.inl rfl) | exact .inr (.inr rfl))) (s_loc (i := 3) rfl (by first | exact .inl rfl | exact .inr (.inl rfl) | exact .inr (.inr rfl)))) (g_nm (i := 2) k rfl (by first | exact .inl rfl | exact .inr rfl)))
  ss_nil))))
  (ss_cons
  (s_ret (s_lst (s_cons (s_loc (i := 2) rfl (by first | exact .inl rfl | exact .inr (.inl rfl) | exact .inr (.inr rfl))) s_nil)))
  ss_nil))))
theorem w35 {P : Program} {w : World} {K : PySem.W.Frag} {mg : Str → Option Value} {base : Heap} {cA : Nat → Addr} {n : Nat} {f : Addr} (Fc : Facts K w mg) (A : All P w K mg base cA F C dsc n) (cdv : Value) (Ar : Around) (outer : List PySem.Env) (s : Shared) (H : Hp) (E : XK) (hr : Room n (cxOf (L2.CX P w) P w K mg base d35.N d35.name d35.scope f cdv Ar outer s H E).A) (k : Kit (cxOf (L2.CX P w) P w K mg base d35.N d35.name d35.scope f cdv Ar outer s H E) E) (hp : PassesOwn (model P w) (cxOf (L2.CX P w) P w K mg base d35.N d35.name d35.scope f cdv Ar outer s H E).A (cxOf (L2.CX P w) P w K mg base d35.N d35.name d35.scope f cdv Ar outer s H E).env (cxOf (L2.CX P w) P w K mg base d35.N d35.name d35.scope f cdv Ar outer s H E).xe) :
    PSs (cxOf (L2.CX P w) P w K mg base d35.N d35.name d35.scope f cdv Ar outer s H E) d35.body (tS cA K w E (exs (run F C n) C f35.body)) :=
  (ss_cons
  (s_asg (c_call (d := d19) (dvs := dv19_2) (dd := []) A rfl rfl rfl rfl rfl k hr rfl rfl rfl (pb19_2) (by intro w H j; simp [f19, dv19_2, RepL, Rep]) rfl (fun n => run_dfl (g := f19) rfl rfl rfl n) (s_cons (s_loc (i := 0) rfl (by first | exact .inl rfl | exact .inr (.inl rfl) | exact .inr (.inr rfl))) (s_cons s_int s_nil))) (g_nm (i := 2) k rfl (by first | exact .inl rfl | exact .inr rfl)))
  (ss_cons
  (s_iff (t_cmp k (s_loc (i := 2) rfl (by first | exact .inl rfl | exact .inr (.inl rfl) | exact .inr (.inr rfl))) s_int) (ss_cons
  (s_ret (s_bin k (s_loc (i := 1) rfl (by first | exact .inl rfl | exact .inr (.inl rfl) | exact .inr (.inr rfl))) (s_tup (s_cons (c_call (d := d19) (dvs := dv19_2) (dd := []) A rfl rfl rfl rfl rfl k hr rfl rfl rfl (pb19_2) (by intro w H j; simp [f19, dv19_2, RepL, Rep]) rfl (fun n => run_dfl (g := f19) rfl rfl rfl n) (s_cons (s_loc (i := 0) rfl (by first | exact .inl rfl | exact .inr (.inl rfl) | exact .inr (.inr rfl))) (s_cons s_int s_nil))) s_nil))))
  ss_nil) ss_nil)
  (ss_cons
  (s_iff (t_cmp k (s_loc (i := 2) rfl (by first | exact .inl rfl | exact .inr (.inl rfl) | exact .inr (.inr rfl))) s_int) (ss_cons
  (s_ret (s_sli (s_loc (i := 1) rfl (by first | exact .inl rfl | exact .inr (.inl rfl) | exact .inr (.inr rfl))) o_no (o_so (s_neg s_int))))
  ss_nil) ss_nil)
  (ss_cons
  (s_iff (t_cmp k (s_loc (i := 2) rfl (by first | exact .inl rfl | exact .inr (.inl rfl) | exact .inr (.inr rfl))) s_int) (ss_cons
  (s_ret (s_bltT (b := .list) blt_list rfl (Fc.no "list" (by decide)) bt_list (s_cons (s_loc (i := 1) rfl (by first | exact .inl rfl | exact .inr (.inl rfl) | exact .inr (.inr rfl))) s_nil)))
  ss_nil) ss_nil)
  (ss_cons
  (s_iff (t_cmp k (s_loc (i := 2) rfl (by first | exact .inl rfl | exact .inr (.inl rfl) | exact .inr (.inr rfl))) s_int) (ss_cons
  (s_ret (s_bin k (s_loc (i := 1) rfl (by first | exact .inl rfl | exact .inr (.inl rfl) | exact .inr (.inr rfl))) (s_tup (s_cons (s_bin k (s_neg s_int) (c_call (d := d19) (dvs := dv19_2) (dd := []) A rfl rfl rfl rfl rfl k hr rfl rfl rfl (pb19_2) (by intro w H j; simp [f19, dv19_2, RepL, Rep]) rfl (fun n => run_dfl (g := f19) rfl rfl rfl n) (s_cons (s_loc (i := 0) rfl (by first | exact .inl rfl | exact .inr (.inl rfl) | exact .inr (.inr rfl))) (s_cons s_int s_nil)))) s_nil))))
  ss_nil) ss_nil)
  (ss_cons
  (s_iff (t_cmp k (s_loc (i := 2) rfl (by first | exact .inl rfl | exact .inr (.inl rfl) | exact .inr (.inr rfl))) s_int) (ss_cons
  (s_ret (s_bin k (s_sli (s_loc (i := 1) rfl (by first | exact .inl rfl | exact .inr (.inl rfl) | exact .inr (.inr rfl))) o_no (o_so (s_neg s_int))) (s_tup (s_cons s_bl s_nil))))
  ss_nil) ss_nil)
  (ss_cons
  (s_iff (t_and (w_andc (t_cmp k (s_loc (i := 2) rfl (by first | exact .inl rfl | exact .inr (.inl rfl) | exact .inr (.inr rfl))) s_int) (w_and1 (t_cmp k (s_loc (i := 1) rfl (by first | exact .inl rfl | exact .inr (.inl rfl) | exact .inr (.inr rfl))) (s_tup s_nil))))) (ss_cons
  (s_ret (s_bin k (s_bin k (s_sli (s_loc (i := 1) rfl (by first | exact .inl rfl | exact .inr (.inl rfl) | exact .inr (.inr rfl))) o_no (o_so (s_neg s_int))) (s_tup (s_cons (s_bin k (s_sub k (s_loc (i := 1) rfl (by first | exact .inl rfl | exact .inr (.inl rfl) | exact .inr (.inr rfl))) (s_neg s_int)) s_int) s_nil))) (s_sli (s_loc (i := 1) rfl (by first | exact .inl rfl | exact .inr (.inl rfl) | exact .inr (.inr rfl))) (o_so (s_neg s_int)) o_no)))
  ss_nil) ss_nil)
  (ss_cons
  (s_ret (c_call (d := d22) (dvs := dv22_1) (dd := []) A rfl rfl rfl rfl rfl k hr rfl rfl rfl (pb22_1) (by intro w H j; simp [f22, dv22_1, RepL, Rep]) rfl (fun n => run_dfl (g := f22) rfl rfl rfl n) (s_cons (s_loc (i := 0) rfl (by first | exact .inl rfl | exact .inr (.inl rfl) | exact .inr (.inr rfl))) s_nil)))
  ss_nil))))))))
theorem w36 {P : Program} {w : World} {K : PySem.W.Frag} {mg : Str → Option Value} {base : Heap} {cA : Nat → Addr} {n : Nat} {f : Addr} (Fc : Facts K w mg) (A : All P w K mg base cA F C dsc n) (cdv : Value) (Ar : Around) (outer : List PySem.Env) (s : Shared) (H : Hp) (E : XK) (hr : Room n (cxOf (L2.CX P w) P w K mg base d36.N d36.name d36.scope f cdv Ar outer s H E).A) (k : Kit (cxOf (L2.CX P w) P w K mg base d36.N d36.name d36.scope f cdv Ar outer s H E) E) (hp : PassesOwn (model P w) (cxOf (L2.CX P w) P w K mg base d36.N d36.name d36.scope f cdv Ar outer s H E).A (cxOf (L2.CX P w) P w K mg base d36.N d36.name d36.scope f cdv Ar outer s H E).env (cxOf (L2.CX P w) P w K mg base d36.N d36.name d36.scope f cdv Ar outer s H E).xe) :
    PSs (cxOf (L2.CX P w) P w K mg base d36.N d36.name d36.scope f cdv Ar outer s H E) d36.body (tS cA K w E (exs (run F C n) C f36.body)) :=
  (ss_cons
  (s_asg (c_call (d := d19) (dvs := dv19_2) (dd := []) A rfl rfl rfl rfl rfl k hr rfl rfl rfl (pb19_2) (by intro w H j; simp [f19, dv19_2, RepL, Rep]) rfl (fun n => run_dfl (g := f19) rfl rfl rfl n) (s_cons (s_loc (i := 0) rfl (by first | exact .inl rfl | exact .inr (.inl rfl) | exact .inr (.inr rfl))) (s_cons (s_bltB (b := .len) blt_len rfl (Fc.no "len" (by decide)) bt_len (s_cons (s_loc (i := 2) rfl (by first | exact .inl rfl | exact .inr (.inl rfl) | exact .inr (.inr rfl))) s_nil)) s_nil))) (g_nm (i := 3) k rfl (by first | exact .inl rfl | exact .inr rfl)))
  (ss_cons
  (s_for hp k (i_seq (s_sli (s_loc (i := 2) rfl (by first | exact .inl rfl | exact .inr (.inl rfl) | exact .inr (.inr rfl))) (o_so (s_loc (i := 3) rfl (by first | exact .inl rfl | exact .inr (.inl rfl) | exact .inr (.inr rfl)))) (o_so (s_bin k (s_loc (i := 3) rfl (by first | exact .inl rfl | exact .inr (.inl rfl) | exact .inr (.inr rfl))) s_int)))) (g_tp k (g_tc (g_nm (i := 4) k rfl (by first | exact .inl rfl | exact .inr rfl)) (g_tc (g_nm (i := 5) k rfl (by first | exact .inl rfl | exact .inr rfl)) (g_tc (g_nm (i := 6) k rfl (by first | exact .inl rfl | exact .inr rfl)) g_tn)))) (ss_cons
  (s_asg (s_ite (t_cmp k (c_call (d := d19) (dvs := dv19_2) (dd := []) A rfl rfl rfl rfl rfl k hr rfl rfl rfl (pb19_2) (by intro w H j; simp [f19, dv19_2, RepL, Rep]) rfl (fun n => run_dfl (g := f19) rfl rfl rfl n) (s_cons (s_loc (i := 0) rfl (by first | exact .inl rfl | exact .inr (.inl rfl) | exact .inr (.inr rfl))) (s_cons s_int s_nil))) s_int) (c_calk (d := d17) (ks := ["path", "term"]) (pm := [1, 0]) A rfl rfl rfl rfl rfl k hr rfl rfl rfl (kb17_1_0) rfl rfl (k_cons (s_loc (i := 4) rfl (by first | exact .inl rfl | exact .inr (.inl rfl) | exact .inr (.inr rfl))) (k_cons (s_loc (i := 1) rfl (by first | exact .inl rfl | exact .inr (.inl rfl) | exact .inr (.inr rfl))) k_nil))) (c_call (d := d17) (dvs := dv17_2) (dd := []) A rfl rfl rfl rfl rfl k hr rfl rfl rfl (pb17_2) (by intro w H j; simp [f17, dv17_2, RepL, Rep]) rfl (fun n => run_dfl (g := f17) rfl rfl rfl n) (s_cons (s_loc (i := 1) rfl (by first | exact .inl rfl | exact .inr (.inl rfl) | exact .inr (.inr rfl))) (s_cons (s_loc (i := 4) rfl (by first | exact .inl rfl | exact .inr (.inl rfl) | exact .inr (.inr rfl))) s_nil)))) (g_nm (i := 7) k rfl (by first | exact .inl rfl | exact .inr rfl)))
  (ss_cons
  (s_iff (t_not (t_call (c_call (d := d21) (dvs := dv21_2) (dd := []) A rfl rfl rfl rfl rfl k hr rfl rfl rfl (pb21_2) (by intro w H j; simp [f21, dv21_2, RepL, Rep]) rfl (fun n => run_dfl (g := f21) rfl rfl rfl n) (s_cons (s_loc (i := 7) rfl (by first | exact .inl rfl | exact .inr (.inl rfl) | exact .inr (.inr rfl))) (s_cons (s_loc (i := 5) rfl (by first | exact .inl rfl | exact .inr (.inl rfl) | exact .inr (.inr rfl))) s_nil))))) (ss_cons
  (s_ret s_bl)
  ss_nil) ss_nil)
  (ss_cons
  (s_asg (c_call (d := d35) (dvs := dv35_2) (dd := []) A rfl rfl rfl rfl rfl k hr rfl rfl rfl (pb35_2) (by intro w H j; simp [f35, dv35_2, RepL, Rep]) rfl (fun n => run_dfl (g := f35) rfl rfl rfl n) (s_cons (s_loc (i := 0) rfl (by first | exact .inl rfl | exact .inr (.inl rfl) | exact .inr (.inr rfl))) (s_cons (s_loc (i := 4) rfl (by first | exact .inl rfl | exact .inr (.inl rfl) | exact .inr (.inr rfl))) s_nil))) (g_nm (i := 8) k rfl (by first | exact .inl rfl | exact .inr rfl)))
  (ss_cons
  (by first | exact (s_par (i := 9) (j := 10) k rfl rfl (by decide) rfl rfl (s_cons (c_call (d := d34) (dvs := dv34_2) (dd := []) A rfl rfl rfl rfl rfl k hr rfl rfl rfl (pb34_2) (by intro w H j; simp [f34, dv34_2, RepL, Rep]) rfl (fun n => run_dfl (g := f34) rfl rfl rfl n) (s_cons (s_loc (i := 1) rfl (by first | exact .inl rfl | exact .inr (.inl rfl) | exact .inr (.inr rfl))) (s_cons (s_loc (i := 8) rfl (by first | exact .inl rfl | exact .inr (.inl rfl) | exact .inr (.inr rfl))) s_nil))) (s_cons (s_bltB (b := .repr) (blt_repr k.gx) rfl (Fc.no "repr" (by decide)) bt_repr (s_cons (s_loc (i := 8) rfl (by first | exact .inl rfl | exact .inr (.inl rfl) | exact .inr (.inr rfl))) s_nil)) s_nil)) rfl) | exact (s_asg (s_tup (s_cons (c_call (d := d34) (dvs := dv34_2) (dd := []) A rfl rfl rfl rfl rfl k hr rfl rfl rfl (pb34_2) (by intro w H j; simp [f34, dv34_2, RepL, Rep]) rfl (fun n => run_dfl (g := f34) rfl rfl rfl n) (s_cons (s_loc (i := 1) rfl (by first | exact .inl rfl | exact .inr (.inl rfl) | exact .inr (.inr rfl))) (s_cons (s_loc (i := 8) rfl (by first | exact .inl rfl | exact .inr (.inl rfl) | exact .inr (.inr rfl))) s_nil))) (s_cons (s_bltB (b := .repr) (blt_repr k.gx) rfl (Fc.no "repr" (by decide)) bt_repr (s_cons (s_loc (i := 8) rfl (by first | exact .inl rfl | exact .inr (.inl rfl) | exact .inr (.inr rfl))) s_nil)) s_nil))) (g_tp k (g_tc (g_nm (i := 9) k rfl (by first | exact .inl rfl | exact .inr rfl)) (g_tc (g_nm (i := 10) k rfl (by first | exact .inl rfl | exact .inr rfl)) g_tn)))))
  (ss_cons
  (s_iff (t_or (w_orc (t_not (t_call (c_call (d := d21) (dvs := dv21_2) (dd := []) A rfl rfl rfl rfl rfl k hr rfl rfl rfl (pb21_2) (by intro w H j; simp [f21, dv21_2, RepL, Rep]) rfl (fun n => run_dfl (g := f21) rfl rfl rfl n) (s_cons (c_call (d := d17) (dvs := dv17_2) (dd := []) A rfl rfl rfl rfl rfl k hr rfl rfl rfl (pb17_2) (by intro w H j; simp [f17, dv17_2, RepL, Rep]) rfl (fun n => run_dfl (g := f17) rfl rfl rfl n) (s_cons (s_loc (i := 1) rfl (by first | exact .inl rfl | exact .inr (.inl rfl) | exact .inr (.inr rfl))) (s_cons (s_loc (i := 8) rfl (by first | exact .inl rfl | exact .inr (.inl rfl) | exact .inr (.inr rfl))) s_nil))) (s_cons (s_ite (t_cmp k (s_loc (i := 9) rfl (by first | exact .inl rfl | exact .inr (.inl rfl) | exact .inr (.inr rfl))) (s_lst s_nil)) (s_sub k (s_loc (i := 9) rfl (by first | exact .inl rfl | exact .inr (.inl rfl) | exact .inr (.inr rfl))) s_int) s_non) s_nil))))) (w_or1 (t_cmp k (s_bltB (b := .repr) (blt_repr k.gx) rfl (Fc.no "repr" (by decide)) bt_repr (s_cons (s_loc (i := 8) rfl (by first | exact .inl rfl | exact .inr (.inl rfl) | exact .inr (.inr rfl))) s_nil)) (s_loc (i := 10) rfl (by first | exact .inl rfl | exact .inr (.inl rfl) | exact .inr (.inr rfl))))))) (ss_cons
  (s_ret s_bl)
  ss_nil) ss_nil)
  ss_nil))))))
  (ss_cons
  (s_ret s_bl)
  ss_nil)))
theorem w37 {P : Program} {w : World} {K : PySem.W.Frag} {mg : Str → Option Value} {base : Heap} {cA : Nat → Addr} {n : Nat} {f : Addr} (Fc : Facts K w mg) (A : All P w K mg base cA F C dsc n) (cdv : Value) (Ar : Around) (outer : List PySem.Env) (s : Shared) (H : Hp) (E : XK) (hr : Room n (cxOf (L2.CX P w) P w K mg base d37.N d37.name d37.scope f cdv Ar outer s H E).A) (k : Kit (cxOf (L2.CX P w) P w K mg base d37.N d37.name d37.scope f cdv Ar outer s H E) E) (hp : PassesOwn (model P w) (cxOf (L2.CX P w) P w K mg base d37.N d37.name d37.scope f cdv Ar outer s H E).A (cxOf (L2.CX P w) P w K mg base d37.N d37.name d37.scope f cdv Ar outer s H E).env (cxOf (L2.CX P w) P w K mg base d37.N d37.name d37.scope f cdv Ar outer s H E).xe) :
    PSs (cxOf (L2.CX P w) P w K mg base d37.N d37.name d37.scope f cdv Ar outer s H E) d37.body (tS cA K w E (exs (run F C n) C f37.body)) :=
  (ss_cons
  (s_asg (c_call (d := d32) (dvs := dv32_3) (dd := []) A rfl rfl rfl rfl rfl k hr rfl rfl rfl (pb32_3) (by intro w H j; simp [f32, dv32_3, RepL, Rep]) rfl (fun n => run_dfl (g := f32) rfl rfl rfl n) (s_cons (s_loc (i := 1) rfl (by first | exact .inl rfl | exact .inr (.inl rfl) | exact .inr (.inr rfl))) (s_cons (s_tup s_nil) (s_cons (s_tup s_nil) s_nil)))) (g_nm (i := 2) k rfl (by first | exact .inl rfl | exact .inr rfl)))
  (ss_cons
  (s_asg (s_bin k (s_bltB (b := .max) (blt_max k.gx) rfl (Fc.no "max" (by decide)) bt_max (s_cons (s_lc k (i_seq (s_loc (i := 2) rfl (by first | exact .inl rfl | exact .inr (.inl rfl) | exact .inr (.inr rfl)))) (blkOk_by (own := [("_law_row", 11)]) (by rfl)) rfl (fun _ _ _ _ _ => (g_nm (i := 11) (k.blk _ _ _ _ _) rfl (by first | exact .inl rfl | exact .inr rfl))) (fun _ _ _ _ _ => ts_nil) (fun _ _ _ _ _ => (s_bltB (b := .len) blt_len rfl (Fc.no "len" (by decide)) bt_len (s_cons (s_sub (k.blk _ _ _ _ _) (s_loc (i := 11) rfl (by first | exact .inl rfl | exact .inr (.inl rfl) | exact .inr (.inr rfl))) s_int) s_nil)))) s_nil)) s_int) (g_nm (i := 3) k rfl (by first | exact .inl rfl | exact .inr rfl)))
  (ss_cons
  (s_asg (c_call (d := d33) (dvs := dv33_1) (dd := []) A rfl rfl rfl rfl rfl k hr rfl rfl rfl (pb33_1) (by intro w H j; simp [f33, dv33_1, RepL, Rep]) rfl (fun n => run_dfl (g := f33) rfl rfl rfl n) (s_cons (s_loc (i := 2) rfl (by first | exact .inl rfl | exact .inr (.inl rfl) | exact .inr (.inr rfl))) s_nil)) (g_nm (i := 4) k rfl (by first | exact .inl rfl | exact .inr rfl)))
  (ss_cons
  (s_iff (t_not (t_call (c_call (d := d21) (dvs := dv21_2) (dd := []) A rfl rfl rfl rfl rfl k hr rfl rfl rfl (pb21_2) (by intro w H j; simp [f21, dv21_2, RepL, Rep]) rfl (fun n => run_dfl (g := f21) rfl rfl rfl n) (s_cons (s_lst (s_cons (c_call (d := d14) (dvs := dv14_1) (dd := []) A rfl rfl rfl rfl rfl k hr rfl rfl rfl (pb14_1) (by intro w H j; simp [f14, dv14_1, RepL, Rep]) rfl (fun n => run_dfl (g := f14) rfl rfl rfl n) (s_cons (s_loc (i := 1) rfl (by first | exact .inl rfl | exact .inr (.inl rfl) | exact .inr (.inr rfl))) s_nil)) (s_cons (c_call (d := d15) (dvs := dv15_1) (dd := []) A rfl rfl rfl rfl rfl k hr rfl rfl rfl (pb15_1) (by intro w H j; simp [f15, dv15_1, RepL, Rep]) rfl (fun n => run_dfl (g := f15) rfl rfl rfl n) (s_cons (s_loc (i := 1) rfl (by first | exact .inl rfl | exact .inr (.inl rfl) | exact .inr (.inr rfl))) s_nil)) (s_cons (c_call (d := d16) (dvs := dv16_1) (dd := []) A rfl rfl rfl rfl rfl k hr rfl rfl rfl (pb16_1) (by intro w H j; simp [f16, dv16_1, RepL, Rep]) rfl (fun n => run_dfl (g := f16) rfl rfl rfl n) (s_cons (s_loc (i := 1) rfl (by first | exact .inl rfl | exact .inr (.inl rfl) | exact .inr (.inr rfl))) s_nil)) s_nil)))) (s_cons (s_lst (s_cons (s_bltB (b := .len) blt_len rfl (Fc.no "len" (by decide)) bt_len (s_cons (s_loc (i := 2) rfl (by first | exact .inl rfl | exact .inr (.inl rfl) | exact .inr (.inr rfl))) s_nil)) (s_cons (s_loc (i := 3) rfl (by first | exact .inl rfl | exact .inr (.inl rfl) | exact .inr (.inr rfl))) (s_cons (s_loc (i := 4) rfl (by first | exact .inl rfl | exact .inr (.inl rfl) | exact .inr (.inr rfl))) s_nil)))) s_nil))))) (ss_cons
  (s_ret s_bl)
  ss_nil) ss_nil)
  (ss_cons
  (s_asg (s_sub k (s_loc (i := 2) rfl (by first | exact .inl rfl | exact .inr (.inl rfl) | exact .inr (.inr rfl))) (c_call (d := d19) (dvs := dv19_2) (dd := []) A rfl rfl rfl rfl rfl k hr rfl rfl rfl (pb19_2) (by intro w H j; simp [f19, dv19_2, RepL, Rep]) rfl (fun n => run_dfl (g := f19) rfl rfl rfl n) (s_cons (s_loc (i := 0) rfl (by first | exact .inl rfl | exact .inr (.inl rfl) | exact .inr (.inr rfl))) (s_cons (s_bltB (b := .len) blt_len rfl (Fc.no "len" (by decide)) bt_len (s_cons (s_loc (i := 2) rfl (by first | exact .inl rfl | exact .inr (.inl rfl) | exact .inr (.inr rfl))) s_nil)) s_nil)))) (g_tp k (g_tc (g_nm (i := 8) k rfl (by first | exact .inl rfl | exact .inr rfl)) (g_tc (g_nm (i := 9) k rfl (by first | exact .inl rfl | exact .inr rfl)) (g_tc (g_nm (i := 10) k rfl (by first | exact .inl rfl | exact .inr rfl)) g_tn)))))
  (ss_cons
  (s_asg (c_call (d := d32) (dvs := dv32_3) (dd := []) A rfl rfl rfl rfl rfl k hr rfl rfl rfl (pb32_3) (by intro w H j; simp [f32, dv32_3, RepL, Rep]) rfl (fun n => run_dfl (g := f32) rfl rfl rfl n) (s_cons (s_loc (i := 9) rfl (by first | exact .inl rfl | exact .inr (.inl rfl) | exact .inr (.inr rfl))) (s_cons (s_tup s_nil) (s_cons (s_tup s_nil) s_nil)))) (g_nm (i := 5) k rfl (by first | exact .inl rfl | exact .inr rfl)))
  (ss_cons
  (s_asg (s_bin k (s_bltB (b := .max) (blt_max k.gx) rfl (Fc.no "max" (by decide)) bt_max (s_cons (s_lc k (i_seq (s_loc (i := 5) rfl (by first | exact .inl rfl | exact .inr (.inl rfl) | exact .inr (.inr rfl)))) (blkOk_by (own := [("_law_row", 11)]) (by rfl)) rfl (fun _ _ _ _ _ => (g_nm (i := 11) (k.blk _ _ _ _ _) rfl (by first | exact .inl rfl | exact .inr rfl))) (fun _ _ _ _ _ => ts_nil) (fun _ _ _ _ _ => (s_bltB (b := .len) blt_len rfl (Fc.no "len" (by decide)) bt_len (s_cons (s_sub (k.blk _ _ _ _ _) (s_loc (i := 11) rfl (by first | exact .inl rfl | exact .inr (.inl rfl) | exact .inr (.inr rfl))) s_int) s_nil)))) s_nil)) s_int) (g_nm (i := 6) k rfl (by first | exact .inl rfl | exact .inr rfl)))
  (ss_cons
  (s_asg (s_lst (s_cons (c_calk (d := d14) (ks := ["term"]) (pm := [0]) A rfl rfl rfl rfl rfl k hr rfl rfl rfl (kb14_0) rfl rfl (k_cons (s_loc (i := 9) rfl (by first | exact .inl rfl | exact .inr (.inl rfl) | exact .inr (.inr rfl))) k_nil)) (s_cons (c_calk (d := d15) (ks := ["term"]) (pm := [0]) A rfl rfl rfl rfl rfl k hr rfl rfl rfl (kb15_0) rfl rfl (k_cons (s_loc (i := 9) rfl (by first | exact .inl rfl | exact .inr (.inl rfl) | exact .inr (.inr rfl))) k_nil)) (s_cons (c_calk (d := d16) (ks := ["term"]) (pm := [0]) A rfl rfl rfl rfl rfl k hr rfl rfl rfl (kb16_0) rfl rfl (k_cons (s_loc (i := 9) rfl (by first | exact .inl rfl | exact .inr (.inl rfl) | exact .inr (.inr rfl))) k_nil)) s_nil)))) (g_nm (i := 7) k rfl (by first | exact .inl rfl | exact .inr rfl)))
  (ss_cons
  (s_iff (t_not (t_call (c_call (d := d21) (dvs := dv21_2) (dd := []) A rfl rfl rfl rfl rfl k hr rfl rfl rfl (pb21_2) (by intro w H j; simp [f21, dv21_2, RepL, Rep]) rfl (fun n => run_dfl (g := f21) rfl rfl rfl n) (s_cons (s_loc (i := 7) rfl (by first | exact .inl rfl | exact .inr (.inl rfl) | exact .inr (.inr rfl))) (s_cons (s_lst (s_cons (s_bltB (b := .len) blt_len rfl (Fc.no "len" (by decide)) bt_len (s_cons (s_loc (i := 5) rfl (by first | exact .inl rfl | exact .inr (.inl rfl) | exact .inr (.inr rfl))) s_nil)) (s_cons (s_loc (i := 6) rfl (by first | exact .inl rfl | exact .inr (.inl rfl) | exact .inr (.inr rfl))) (s_cons (c_call (d := d33) (dvs := dv33_1) (dd := []) A rfl rfl rfl rfl rfl k hr rfl rfl rfl (pb33_1) (by intro w H j; simp [f33, dv33_1, RepL, Rep]) rfl (fun n => run_dfl (g := f33) rfl rfl rfl n) (s_cons (s_loc (i := 5) rfl (by first | exact .inl rfl | exact .inr (.inl rfl) | exact .inr (.inr rfl))) s_nil)) s_nil)))) s_nil))))) (ss_cons
  (s_ret s_bl)
  ss_nil) ss_nil)
  (ss_cons
  (s_ret (s_and (s_andc (c_call (d := d36) (dvs := dv36_3) (dd := []) A rfl rfl rfl rfl rfl k hr rfl rfl rfl (pb36_3) (by intro w H j; simp [f36, dv36_3, RepL, Rep]) rfl (fun n => run_dfl (g := f36) rfl rfl rfl n) (s_cons (s_loc (i := 0) rfl (by first | exact .inl rfl | exact .inr (.inl rfl) | exact .inr (.inr rfl))) (s_cons (s_loc (i := 1) rfl (by first | exact .inl rfl | exact .inr (.inl rfl) | exact .inr (.inr rfl))) (s_cons (s_loc (i := 2) rfl (by first | exact .inl rfl | exact .inr (.inl rfl) | exact .inr (.inr rfl))) s_nil)))) (s_and1 (c_call (d := d21) (dvs := dv21_2) (dd := []) A rfl rfl rfl rfl rfl k hr rfl rfl rfl (pb21_2) (by intro w H j; simp [f21, dv21_2, RepL, Rep]) rfl (fun n => run_dfl (g := f21) rfl rfl rfl n) (s_cons (c_call (d := d16) (dvs := dv16_1) (dd := []) A rfl rfl rfl rfl rfl k hr rfl rfl rfl (pb16_1) (by intro w H j; simp [f16, dv16_1, RepL, Rep]) rfl (fun n => run_dfl (g := f16) rfl rfl rfl n) (s_cons (s_loc (i := 1) rfl (by first | exact .inl rfl | exact .inr (.inl rfl) | exact .inr (.inr rfl))) s_nil)) (s_cons (s_loc (i := 4) rfl (by first | exact .inl rfl | exact .inr (.inl rfl) | exact .inr (.inr rfl))) s_nil)))))))
  ss_nil))))))))))
theorem w38 {P : Program} {w : World} {K : PySem.W.Frag} {mg : Str → Option Value} {base : Heap} {cA : Nat → Addr} {n : Nat} {f : Addr} (Fc : Facts K w mg) (A : All P w K mg base cA F C dsc n) (cdv : Value) (Ar : Around) (outer : List PySem.Env) (s : Shared) (H : Hp) (E : XK) (hr : Room n (cxOf (L2.CX P w) P w K mg base d38.N d38.name d38.scope f cdv Ar outer s H E).A) (k : Kit (cxOf (L2.CX P w) P w K mg base d38.N d38.name d38.scope f cdv Ar outer s H E) E) (hp : PassesOwn (model P w) (cxOf (L2.CX P w) P w K mg base d38.N d38.name d38.scope f cdv Ar outer s H E).A (cxOf (L2.CX P w) P w K mg base d38.N d38.name d38.scope f cdv Ar outer s H E).env (cxOf (L2.CX P w) P w K mg base d38.N d38.name d38.scope f cdv Ar outer s H E).xe) :
    PSs (cxOf (L2.CX P w) P w K mg base d38.N d38.name d38.scope f cdv Ar outer s H E) d38.body (tS cA K w E (exs (run F C n) C f38.body)) :=
  (ss_cons
  (s_for hp k (i_rg1 rfl (Fc.no "range" (by decide)) (c_call (d := d19) (dvs := dv19_2) (dd := []) A rfl rfl rfl rfl rfl k hr rfl rfl rfl (pb19_2) (by intro w H j; simp [f19, dv19_2, RepL, Rep]) rfl (fun n => run_dfl (g := f19) rfl rfl rfl n) (s_cons (s_loc (i := 0) rfl (by first | exact .inl rfl | exact .inr (.inl rfl) | exact .inr (.inr rfl))) (s_cons s_int s_nil)))) (g_nm (i := 3) k rfl (by first | exact .inl rfl | exact .inr rfl)) (ss_cons
  (by first | exact (s_par (i := 4) (j := 5) k rfl rfl (by decide) rfl rfl (s_cons (c_call (d := d20) (dvs := dv20_2) (dd := []) A rfl rfl rfl rfl rfl k hr rfl rfl rfl (pb20_2) (by intro w H j; simp [f20, dv20_2, RepL, Rep]) rfl (fun n => run_dfl (g := f20) rfl rfl rfl n) (s_cons (s_loc (i := 0) rfl (by first | exact .inl rfl | exact .inr (.inl rfl) | exact .inr (.inr rfl))) (s_cons (s_loc (i := 2) rfl (by first | exact .inl rfl | exact .inr (.inl rfl) | exact .inr (.inr rfl))) s_nil))) (s_cons (c_call (d := d19) (dvs := dv19_2) (dd := []) A rfl rfl rfl rfl rfl k hr rfl rfl rfl (pb19_2) (by intro w H j; simp [f19, dv19_2, RepL, Rep]) rfl (fun n => run_dfl (g := f19) rfl rfl rfl n) (s_cons (s_loc (i := 0) rfl (by first | exact .inl rfl | exact .inr (.inl rfl) | exact .inr (.inr rfl))) (s_cons s_int s_nil))) s_nil)) rfl) | exact (s_asg (s_tup (s_cons (c_call (d := d20) (dvs := dv20_2) (dd := []) A rfl rfl rfl rfl rfl k hr rfl rfl rfl (pb20_2) (by intro w H j; simp [f20, dv20_2, RepL, Rep]) rfl (fun n => run_dfl (g := f20) rfl rfl rfl n) (s_cons (s_loc (i := 0) rfl (by first | exact .inl rfl | exact .inr (.inl rfl) | exact .inr (.inr rfl))) (s_cons (s_loc (i := 2) rfl (by first | exact .inl rfl | exact .inr (.inl rfl) | exact .inr (.inr rfl))) s_nil))) (s_cons (c_call (d := d19) (dvs := dv19_2) (dd := []) A rfl rfl rfl rfl rfl k hr rfl rfl rfl (pb19_2) (by intro w H j; simp [f19, dv19_2, RepL, Rep]) rfl (fun n => run_dfl (g := f19) rfl rfl rfl n) (s_cons (s_loc (i := 0) rfl (by first | exact .inl rfl | exact .inr (.inl rfl) | exact .inr (.inr rfl))) (s_cons s_int s_nil))) s_nil))) (g_tp k (g_tc (g_nm (i := 4) k rfl (by first | exact .inl rfl | exact .inr rfl)) (g_tc (g_nm (i := 5) k rfl (by first | exact .inl rfl | exact .inr rfl)) g_tn)))))
  (ss_cons
  (s_iff (t_cmp k (s_loc (i := 5) rfl (by first | exact .inl rfl | exact .inr (.inl rfl) | exact .inr (.inr rfl))) s_int) (ss_cons
  (s_asg (s_tup (s_cons s_str (s_cons (s_loc (i := 4) rfl (by first | exact .inl rfl | exact .inr (.inl rfl) | exact .inr (.inr rfl))) (s_cons (c_call (d := d24) (dvs := dv24_3) (dd := []) A rfl rfl rfl rfl rfl k hr rfl rfl rfl (pb24_3) (by intro w H j; simp [f24, dv24_3, RepL, Rep]) rfl (fun n => run_dfl (g := f24) rfl rfl rfl n) (s_cons (s_loc (i := 0) rfl (by first | exact .inl rfl | exact .inr (.inl rfl) | exact .inr (.inr rfl))) (s_cons s_int (s_cons s_int s_nil)))) (s_cons (s_loc (i := 1) rfl (by first | exact .inl rfl | exact .inr (.inl rfl) | exact .inr (.inr rfl))) s_nil))))) (g_nm (i := 1) k rfl (by first | exact .inl rfl | exact .inr rfl)))
  ss_nil) (ss_cons
  (s_iff (t_cmp k (s_loc (i := 5) rfl (by first | exact .inl rfl | exact .inr (.inl rfl) | exact .inr (.inr rfl))) s_int) (ss_cons
  (s_asg (s_tup (s_cons s_str (s_cons (s_loc (i := 4) rfl (by first | exact .inl rfl | exact .inr (.inl rfl) | exact .inr (.inr rfl))) (s_cons (c_call (d := d28) (dvs := dv28_2) (dd := []) A rfl rfl rfl rfl rfl k hr rfl rfl rfl (pb28_2) (by intro w H j; simp [f28, dv28_2, RepL, Rep]) rfl (fun n => run_dfl (g := f28) rfl rfl rfl n) (s_cons (s_loc (i := 0) rfl (by first | exact .inl rfl | exact .inr (.inl rfl) | exact .inr (.inr rfl))) (s_cons (s_loc (i := 2) rfl (by first | exact .inl rfl | exact .inr (.inl rfl) | exact .inr (.inr rfl))) s_nil))) (s_cons (s_loc (i := 1) rfl (by first | exact .inl rfl | exact .inr (.inl rfl) | exact .inr (.inr rfl))) s_nil))))) (g_nm (i := 1) k rfl (by first | exact .inl rfl | exact .inr rfl)))
  ss_nil) (ss_cons
  (s_iff (t_cmp k (s_loc (i := 5) rfl (by first | exact .inl rfl | exact .inr (.inl rfl) | exact .inr (.inr rfl))) s_int) (ss_cons
  (s_asg (s_tup (s_cons s_str (s_cons (s_loc (i := 4) rfl (by first | exact .inl rfl | exact .inr (.inl rfl) | exact .inr (.inr rfl))) (s_cons (s_loc (i := 1) rfl (by first | exact .inl rfl | exact .inr (.inl rfl) | exact .inr (.inr rfl))) (s_cons (c_call (d := d29) (dvs := dv29_3) (dd := []) A rfl rfl rfl rfl rfl k hr rfl rfl rfl (pb29_3) (by intro w H j; simp [f29, dv29_3, RepL, Rep]) rfl (fun n => run_dfl (g := f29) rfl rfl rfl n) (s_cons (s_loc (i := 0) rfl (by first | exact .inl rfl | exact .inr (.inl rfl) | exact .inr (.inr rfl))) (s_cons s_int (s_cons (s_loc (i := 2) rfl (by first | exact .inl rfl | exact .inr (.inl rfl) | exact .inr (.inr rfl))) s_nil)))) s_nil))))) (g_nm (i := 1) k rfl (by first | exact .inl rfl | exact .inr rfl)))
  ss_nil) (ss_cons
  (s_asg (s_tup (s_cons s_str (s_cons (s_tup (s_cons s_str (s_cons (s_loc (i := 4) rfl (by first | exact .inl rfl | exact .inr (.inl rfl) | exact .inr (.inr rfl))) s_nil))) (s_cons (s_loc (i := 4) rfl (by first | exact .inl rfl | exact .inr (.inl rfl) | exact .inr (.inr rfl))) (s_cons (s_loc (i := 1) rfl (by first | exact .inl rfl | exact .inr (.inl rfl) | exact .inr (.inr rfl))) (s_cons (c_call (d := d20) (dvs := dv20_2) (dd := []) A rfl rfl rfl rfl rfl k hr rfl rfl rfl (pb20_2) (by intro w H j; simp [f20, dv20_2, RepL, Rep]) rfl (fun n => run_dfl (g := f20) rfl rfl rfl n) (s_cons (s_loc (i := 0) rfl (by first | exact .inl rfl | exact .inr (.inl rfl) | exact .inr (.inr rfl))) (s_cons (s_loc (i := 2) rfl (by first | exact .inl rfl | exact .inr (.inl rfl) | exact .inr (.inr rfl))) s_nil))) (s_cons (c_call (d := d29) (dvs := dv29_3) (dd := []) A rfl rfl rfl rfl rfl k hr rfl rfl rfl (pb29_3) (by intro w H j; simp [f29, dv29_3, RepL, Rep]) rfl (fun n => run_dfl (g := f29) rfl rfl rfl n) (s_cons (s_loc (i := 0) rfl (by first | exact .inl rfl | exact .inr (.inl rfl) | exact .inr (.inr rfl))) (s_cons s_int (s_cons (s_loc (i := 2) rfl (by first | exact .inl rfl | exact .inr (.inl rfl) | exact .inr (.inr rfl))) s_nil)))) s_nil))))))) (g_nm (i := 1) k rfl (by first | exact .inl rfl | exact .inr rfl)))
  ss_nil))
  ss_nil))
  ss_nil))
  ss_nil)))
  (ss_cons
  (s_ret (s_loc (i := 1) rfl (by first | exact .inl rfl | exact .inr (.inl rfl) | exact .inr (.inr rfl))))
  ss_nil))
theorem w39 {P : Program} {w : World} {K : PySem.W.Frag} {mg : Str → Option Value} {base : Heap} {cA : Nat → Addr} {n : Nat} {f : Addr} (Fc : Facts K w mg) (A : All P w K mg base cA F C dsc n) (cdv : Value) (Ar : Around) (outer : List PySem.Env) (s : Shared) (H : Hp) (E : XK) (hr : Room n (cxOf (L2.CX P w) P w K mg base d39.N d39.name d39.scope f cdv Ar outer s H E).A) (k : Kit (cxOf (L2.CX P w) P w K mg base d39.N d39.name d39.scope f cdv Ar outer s H E) E) (hp : PassesOwn (model P w) (cxOf (L2.CX P w) P w K mg base d39.N d39.name d39.scope f cdv Ar outer s H E).A (cxOf (L2.CX P w) P w K mg base d39.N d39.name d39.scope f cdv Ar outer s H E).env (cxOf (L2.CX P w) P w K mg base d39.N d39.name d39.scope f cdv Ar outer s H E).xe) :
    PSs (cxOf (L2.CX P w) P w K mg base d39.N d39.name d39.scope f cdv Ar outer s H E) d39.body (tS cA K w E (exs (run F C n) C f39.body)) :=
  (ss_cons
  (s_asg (c_call (d := d27) (dvs := dv27_1) (dd := []) A rfl rfl rfl rfl rfl k hr rfl rfl rfl (pb27_1) (by intro w H j; simp [f27, dv27_1, RepL, Rep]) rfl (fun n => run_dfl (g := f27) rfl rfl rfl n) (s_cons (s_loc (i := 0) rfl (by first | exact .inl rfl | exact .inr (.inl rfl) | exact .inr (.inr rfl))) s_nil)) (g_nm (i := 1) k rfl (by first | exact .inl rfl | exact .inr rfl)))
  (ss_cons
  (s_asg (s_bin k (s_lc k (i_seq (s_loc (i := 1) rfl (by first | exact .inl rfl | exact .inr (.inl rfl) | exact .inr (.inr rfl)))) (blkOk_by (own := [("_law_name", 8)]) (by rfl)) rfl (fun _ _ _ _ _ => (g_nm (i := 8) (k.blk _ _ _ _ _) rfl (by first | exact .inl rfl | exact .inr rfl))) (fun _ _ _ _ _ => (ts_one (t_call (c_call (d := d26) (dvs := dv26_1) (dd := []) A rfl rfl rfl rfl rfl (k.blk _ _ _ _ _) hr rfl rfl rfl (pb26_1) (by intro w H j; simp [f26, dv26_1, RepL, Rep]) rfl (fun n => run_dfl (g := f26) rfl rfl rfl n) (s_cons (s_loc (i := 8) rfl (by first | exact .inl rfl | exact .inr (.inl rfl) | exact .inr (.inr rfl))) s_nil))))) (fun _ _ _ _ _ => (s_loc (i := 8) rfl (by first | exact .inl rfl | exact .inr (.inl rfl) | exact .inr (.inr rfl))))) (s_lst (s_cons s_str (s_cons s_str s_nil)))) (g_nm (i := 2) k rfl (by first | exact .inl rfl | exact .inr rfl)))
  (ss_cons
  (s_asg (s_sli (s_loc (i := 2) rfl (by first | exact .inl rfl | exact .inr (.inl rfl) | exact .inr (.inr rfl))) o_no (o_so s_int)) (g_nm (i := 3) k rfl (by first | exact .inl rfl | exact .inr rfl)))
  (ss_cons
  (s_for hp k (i_rg1 rfl (Fc.no "range" (by decide)) s_int) (g_nm (i := 4) k rfl (by first | exact .inl rfl | exact .inr rfl)) (ss_cons
  (s_asg (c_call (d := d29) (dvs := dv29_3) (dd := []) A rfl rfl rfl rfl rfl k hr rfl rfl rfl (pb29_3) (by intro w H j; simp [f29, dv29_3, RepL, Rep]) rfl (fun n => run_dfl (g := f29) rfl rfl rfl n) (s_cons (s_loc (i := 0) rfl (by first | exact .inl rfl | exact .inr (.inl rfl) | exact .inr (.inr rfl))) (s_cons (c_call (d := d20) (dvs := dv20_2) (dd := []) A rfl rfl rfl rfl rfl k hr rfl rfl rfl (pb20_2) (by intro w H j; simp [f20, dv20_2, RepL, Rep]) rfl (fun n => run_dfl (g := f20) rfl rfl rfl n) (s_cons (s_loc (i := 0) rfl (by first | exact .inl rfl | exact .inr (.inl rfl) | exact .inr (.inr rfl))) (s_cons (s_tup (s_cons s_int (s_cons s_int (s_cons s_int (s_cons s_int s_nil))))) s_nil))) (s_cons (s_loc (i := 3) rfl (by first | exact .inl rfl | exact .inr (.inl rfl) | exact .inr (.inr rfl))) s_nil)))) (g_nm (i := 7) k rfl (by first | exact .inl rfl | exact .inr rfl)))
  (ss_cons
  (s_iff (t_or (w_orc (t_not (t_call (c_call (d := d37) (dvs := dv37_2) (dd := []) A rfl rfl rfl rfl rfl k hr rfl rfl rfl (pb37_2) (by intro w H j; simp [f37, dv37_2, RepL, Rep]) rfl (fun n => run_dfl (g := f37) rfl rfl rfl n) (s_cons (s_loc (i := 0) rfl (by first | exact .inl rfl | exact .inr (.inl rfl) | exact .inr (.inr rfl))) (s_cons (s_loc (i := 7) rfl (by first | exact .inl rfl | exact .inr (.inl rfl) | exact .inr (.inr rfl))) s_nil))))) (w_or1 (t_not (t_call (c_call (d := d37) (dvs := dv37_2) (dd := []) A rfl rfl rfl rfl rfl k hr rfl rfl rfl (pb37_2) (by intro w H j; simp [f37, dv37_2, RepL, Rep]) rfl (fun n => run_dfl (g := f37) rfl rfl rfl n) (s_cons (s_loc (i := 0) rfl (by first | exact .inl rfl | exact .inr (.inl rfl) | exact .inr (.inr rfl))) (s_cons (c_call (d := d38) (dvs := dv38_3) (dd := []) A rfl rfl rfl rfl rfl k hr rfl rfl rfl (pb38_3) (by intro w H j; simp [f38, dv38_3, RepL, Rep]) rfl (fun n => run_dfl (g := f38) rfl rfl rfl n) (s_cons (s_loc (i := 0) rfl (by first | exact .inl rfl | exact .inr (.inl rfl) | exact .inr (.inr rfl))) (s_cons (s_loc (i := 7) rfl (by first | exact .inl rfl | exact .inr (.inl rfl) | exact .inr (.inr rfl))) (s_cons (s_loc (i := 3) rfl (by first | exact .inl rfl | exact .inr (.inl rfl) | exact .inr (.inr rfl))) s_nil)))) s_nil)))))))) (ss_cons
  (s_ret s_bl)
  ss_nil) ss_nil)
  ss_nil)))
  (ss_cons
  (s_asg (c_call (d := d30) (dvs := dv30_3) (dd := []) A rfl rfl rfl rfl rfl k hr rfl rfl rfl (pb30_3) (by intro w H j; simp [f30, dv30_3, RepL, Rep]) rfl (fun n => run_dfl (g := f30) rfl rfl rfl n) (s_cons (s_loc (i := 0) rfl (by first | exact .inl rfl | exact .inr (.inl rfl) | exact .inr (.inr rfl))) (s_cons (c_call (d := d20) (dvs := dv20_2) (dd := []) A rfl rfl rfl rfl rfl k hr rfl rfl rfl (pb20_2) (by intro w H j; simp [f20, dv20_2, RepL, Rep]) rfl (fun n => run_dfl (g := f20) rfl rfl rfl n) (s_cons (s_loc (i := 0) rfl (by first | exact .inl rfl | exact .inr (.inl rfl) | exact .inr (.inr rfl))) (s_cons (s_tup (s_cons s_int (s_cons s_int (s_cons s_int (s_cons s_int s_nil))))) s_nil))) (s_cons (s_loc (i := 2) rfl (by first | exact .inl rfl | exact .inr (.inl rfl) | exact .inr (.inr rfl))) s_nil)))) (g_nm (i := 5) k rfl (by first | exact .inl rfl | exact .inr rfl)))
  (ss_cons
  (s_asg (c_call (d := d31) (dvs := dv31_3) (dd := []) A rfl rfl rfl rfl rfl k hr rfl rfl rfl (pb31_3) (by intro w H j; simp [f31, dv31_3, RepL, Rep]) rfl (fun n => run_dfl (g := f31) rfl rfl rfl n) (s_cons (s_loc (i := 0) rfl (by first | exact .inl rfl | exact .inr (.inl rfl) | exact .inr (.inr rfl))) (s_cons (c_call (d := d20) (dvs := dv20_2) (dd := []) A rfl rfl rfl rfl rfl k hr rfl rfl rfl (pb20_2) (by intro w H j; simp [f20, dv20_2, RepL, Rep]) rfl (fun n => run_dfl (g := f20) rfl rfl rfl n) (s_cons (s_loc (i := 0) rfl (by first | exact .inl rfl | exact .inr (.inl rfl) | exact .inr (.inr rfl))) (s_cons (s_tup (s_cons s_int (s_cons s_int (s_cons s_int s_nil)))) s_nil))) (s_cons (s_loc (i := 2) rfl (by first | exact .inl rfl | exact .inr (.inl rfl) | exact .inr (.inr rfl))) s_nil)))) (g_nm (i := 6) k rfl (by first | exact .inl rfl | exact .inr rfl)))
  (ss_cons
  (s_ret (s_and (s_andc (c_call (d := d37) (dvs := dv37_2) (dd := []) A rfl rfl rfl rfl rfl k hr rfl rfl rfl (pb37_2) (by intro w H j; simp [f37, dv37_2, RepL, Rep]) rfl (fun n => run_dfl (g := f37) rfl rfl rfl n) (s_cons (s_loc (i := 0) rfl (by first | exact .inl rfl | exact .inr (.inl rfl) | exact .inr (.inr rfl))) (s_cons (s_loc (i := 5) rfl (by first | exact .inl rfl | exact .inr (.inl rfl) | exact .inr (.inr rfl))) s_nil))) (s_and1 (c_call (d := d37) (dvs := dv37_2) (dd := []) A rfl rfl rfl rfl rfl k hr rfl rfl rfl (pb37_2) (by intro w H j; simp [f37, dv37_2, RepL, Rep]) rfl (fun n => run_dfl (g := f37) rfl rfl rfl n) (s_cons (s_loc (i := 0) rfl (by first | exact .inl rfl | exact .inr (.inl rfl) | exact .inr (.inr rfl))) (s_cons (s_loc (i := 6) rfl (by first | exact .inl rfl | exact .inr (.inl rfl) | exact .inr (.inr rfl))) s_nil)))))))
  ss_nil)))))))
theorem w40 {P : Program} {w : World} {K : PySem.W.Frag} {mg : Str → Option Value} {base : Heap} {cA : Nat → Addr} {n : Nat} {f : Addr} (Fc : Facts K w mg) (A : All P w K mg base cA F C dsc n) (cdv : Value) (Ar : Around) (outer : List PySem.Env) (s : Shared) (H : Hp) (E : XK) (hr : Room n (cxOf (L2.CX P w) P w K mg base d40.N d40.name d40.scope f cdv Ar outer s H E).A) (k : Kit (cxOf (L2.CX P w) P w K mg base d40.N d40.name d40.scope f cdv Ar outer s H E) E) (hp : PassesOwn (model P w) (cxOf (L2.CX P w) P w K mg base d40.N d40.name d40.scope f cdv Ar outer s H E).A (cxOf (L2.CX P w) P w K mg base d40.N d40.name d40.scope f cdv Ar outer s H E).env (cxOf (L2.CX P w) P w K mg base d40.N d40.name d40.scope f cdv Ar outer s H E).xe) :
    PSs (cxOf (L2.CX P w) P w K mg base d40.N d40.name d40.scope f cdv Ar outer s H E) d40.body (tS cA K w E (exs (run F C n) C f40.body)) :=
  (ss_cons
  (s_ret (s_bltB (b := .all) (blt_all k.gx) rfl (Fc.no "all" (by decide)) bt_all (s_cons (s_lc k (i_rg1 rfl (Fc.no "range" (by decide)) (s_bltB (b := .max2) (blt_max2 k.gx) rfl (Fc.no "max" (by decide)) bt_max (s_cons s_int (s_cons (s_bltB (b := .min2) (blt_min2 k.gx) rfl (Fc.no "min" (by decide)) bt_min (s_cons (s_bltB (b := .len) blt_len rfl (Fc.no "len" (by decide)) bt_len (s_cons (s_loc (i := 0) rfl (by first | exact .inl rfl | exact .inr (.inl rfl) | exact .inr (.inr rfl))) s_nil)) (s_cons s_int s_nil))) s_nil)))) (blkOk_by (own := [("_law_turn", 1)]) (by rfl)) rfl (fun _ _ _ _ _ => (g_nm (i := 1) (k.blk _ _ _ _ _) rfl (by first | exact .inl rfl | exact .inr rfl))) (fun _ _ _ _ _ => ts_nil) (fun _ _ _ _ _ => (c_call (d := d39) (dvs := dv39_1) (dd := []) A rfl rfl rfl rfl rfl (k.blk _ _ _ _ _) hr rfl rfl rfl (pb39_1) (by intro w H j; simp [f39, dv39_1, RepL, Rep]) rfl (fun n => run_dfl (g := f39) rfl rfl rfl n) (s_cons (c_call (d := d18) (dvs := dv18_2) (dd := []) A rfl rfl rfl rfl rfl (k.blk _ _ _ _ _) hr rfl rfl rfl (pb18_2) (by intro w H j; simp [f18, dv18_2, RepL, Rep]) rfl (fun n => run_dfl (g := f18) rfl rfl rfl n) (s_cons (s_loc (i := 0) rfl (by first | exact .inl rfl | exact .inr (.inl rfl) | exact .inr (.inr rfl))) (s_cons (s_loc (i := 1) rfl (by first | exact .inl rfl | exact .inr (.inl rfl) | exact .inr (.inr rfl))) s_nil))) s_nil)))) s_nil)))
  ss_nil)
theorem all {P : Program} {w : World} {K : PySem.W.Frag} {mg : Str → Option Value} {base : Heap} {cA : Nat → Addr} (Fc : Facts K w mg) : ∀ n, All P w K mg base cA F C dsc n
  | 0 => all_zero Fc.at_
  | n + 1 => fun i d hi => by
    have A := all (base := base) (P := P) (cA := cA) Fc n
    obtain ⟨f, fd, a⟩ := Fc.at_ i d hi
    refine ⟨f, fd, a, ?_⟩
    match i, hi with
    | 0, hi => cases hi; exact fn_ok (g := f0) a.2 (C8.fnScope_by (N := d0.N) (by decide)) Fc.sm rfl rfl rfl fun cdv Ar outer s H E hr kk hp => w0 Fc A cdv Ar outer s H E hr kk hp
    | 1, hi => cases hi; exact fn_ok (g := f1) a.2 (C8.fnScope_by (N := d1.N) (by decide)) Fc.sm rfl rfl rfl fun cdv Ar outer s H E hr kk hp => w1 Fc A cdv Ar outer s H E hr kk hp
    | 2, hi => cases hi; exact fn_ok (g := f2) a.2 (C8.fnScope_by (N := d2.N) (by decide)) Fc.sm rfl rfl rfl fun cdv Ar outer s H E hr kk hp => w2 Fc A cdv Ar outer s H E hr kk hp
    | 3, hi => cases hi; exact fn_ok (g := f3) a.2 (C8.fnScope_by (N := d3.N) (by decide)) Fc.sm rfl rfl rfl fun cdv Ar outer s H E hr kk hp => w3 Fc A cdv Ar outer s H E hr kk hp
    | 4, hi => cases hi; exact fn_ok (g := f4) a.2 (C8.fnScope_by (N := d4.N) (by decide)) Fc.sm rfl rfl rfl fun cdv Ar outer s H E hr kk hp => w4 Fc A cdv Ar outer s H E hr kk hp
    | 5, hi => cases hi; exact fn_ok (g := f5) a.2 (C8.fnScope_by (N := d5.N) (by decide)) Fc.sm rfl rfl rfl fun cdv Ar outer s H E hr kk hp => w5 Fc A cdv Ar outer s H E hr kk hp
    | 6, hi => cases hi; exact fn_ok (g := f6) a.2 (C8.fnScope_by (N := d6.N) (by decide)) Fc.sm rfl rfl rfl fun cdv Ar outer s H E hr kk hp => w6 Fc A cdv Ar outer s H E hr kk hp
    | 7, hi => cases hi; exact fn_ok (g := f7) a.2 (C8.fnScope_by (N := d7.N) (by decide)) Fc.sm rfl rfl rfl fun cdv Ar outer s H E hr kk hp => w7 Fc A cdv Ar outer s H E hr kk hp
    | 8, hi => cases hi; exact fn_ok (g := f8) a.2 (C8.fnScope_by (N := d8.N) (by decide)) Fc.sm rfl rfl rfl fun cdv Ar outer s H E hr kk hp => w8 Fc A cdv Ar outer s H E hr kk hp
    | 9, hi => cases hi; exact fn_ok (g := f9) a.2 (C8.fnScope_by (N := d9.N) (by decide)) Fc.sm rfl rfl rfl fun cdv Ar outer s H E hr kk hp => w9 Fc A cdv Ar outer s H E hr kk hp
    | 10, hi => cases hi; exact fn_ok (g := f10) a.2 (C8.fnScope_by (N := d10.N) (by decide)) Fc.sm rfl rfl rfl fun cdv Ar outer s H E hr kk hp => w10 Fc A cdv Ar outer s H E hr kk hp
    | 11, hi => cases hi; exact fn_ok (g := f11) a.2 (C8.fnScope_by (N := d11.N) (by decide)) Fc.sm rfl rfl rfl fun cdv Ar outer s H E hr kk hp => w11 Fc A cdv Ar outer s H E hr kk hp
    | 12, hi => cases hi; exact fn_ok (g := f12) a.2 (C8.fnScope_by (N := d12.N) (by decide)) Fc.sm rfl rfl rfl fun cdv Ar outer s H E hr kk hp => w12 Fc A cdv Ar outer s H E hr kk hp
    | 13, hi => cases hi; exact fn_ok (g := f13) a.2 (C8.fnScope_by (N := d13.N) (by decide)) Fc.sm rfl rfl rfl fun cdv Ar outer s H E hr kk hp => w13 Fc A cdv Ar outer s H E hr kk hp
    | 14, hi => cases hi; exact fn_ok (g := f14) a.2 (C8.fnScope_by (N := d14.N) (by decide)) Fc.sm rfl rfl rfl fun cdv Ar outer s H E hr kk hp => w14 Fc A cdv Ar outer s H E hr kk hp
    | 15, hi => cases hi; exact fn_ok (g := f15) a.2 (C8.fnScope_by (N := d15.N) (by decide)) Fc.sm rfl rfl rfl fun cdv Ar outer s H E hr kk hp => w15 Fc A cdv Ar outer s H E hr kk hp
    | 16, hi => cases hi; exact fn_ok (g := f16) a.2 (C8.fnScope_by (N := d16.N) (by decide)) Fc.sm rfl rfl rfl fun cdv Ar outer s H E hr kk hp => w16 Fc A cdv Ar outer s H E hr kk hp
    | 17, hi => cases hi; exact fn_ok (g := f17) a.2 (C8.fnScope_by (N := d17.N) (by decide)) Fc.sm rfl rfl rfl fun cdv Ar outer s H E hr kk hp => w17 Fc A cdv Ar outer s H E hr kk hp
    | 18, hi => cases hi; exact fn_ok (g := f18) a.2 (C8.fnScope_by (N := d18.N) (by decide)) Fc.sm rfl rfl rfl fun cdv Ar outer s H E hr kk hp => w18 Fc A cdv Ar outer s H E hr kk hp
    | 19, hi => cases hi; exact fn_ok (g := f19) a.2 (C8.fnScope_by (N := d19.N) (by decide)) Fc.sm rfl rfl rfl fun cdv Ar outer s H E hr kk hp => w19 Fc A cdv Ar outer s H E hr kk hp
    | 20, hi => cases hi; exact fn_ok (g := f20) a.2 (C8.fnScope_by (N := d20.N) (by decide)) Fc.sm rfl rfl rfl fun cdv Ar outer s H E hr kk hp => w20 Fc A cdv Ar outer s H E hr kk hp
    | 21, hi => cases hi; exact fn_ok (g := f21) a.2 (C8.fnScope_by (N := d21.N) (by decide)) Fc.sm rfl rfl rfl fun cdv Ar outer s H E hr kk hp => w21 Fc A cdv Ar outer s H E hr kk hp
    | 22, hi => cases hi; exact fn_ok (g := f22) a.2 (C8.fnScope_by (N := d22.N) (by decide)) Fc.sm rfl rfl rfl fun cdv Ar outer s H E hr kk hp => w22 Fc A cdv Ar outer s H E hr kk hp
    | 23, hi => cases hi; exact fn_ok (g := f23) a.2 (C8.fnScope_by (N := d23.N) (by decide)) Fc.sm rfl rfl rfl fun cdv Ar outer s H E hr kk hp => w23 Fc A cdv Ar outer s H E hr kk hp
    | 24, hi => cases hi; exact fn_ok (g := f24) a.2 (C8.fnScope_by (N := d24.N) (by decide)) Fc.sm rfl rfl rfl fun cdv Ar outer s H E hr kk hp => w24 Fc A cdv Ar outer s H E hr kk hp
    | 25, hi => cases hi; exact fn_ok (g := f25) a.2 (C8.fnScope_by (N := d25.N) (by decide)) Fc.sm rfl rfl rfl fun cdv Ar outer s H E hr kk hp => w25 Fc A cdv Ar outer s H E hr kk hp
    | 26, hi => cases hi; exact fn_ok (g := f26) a.2 (C8.fnScope_by (N := d26.N) (by decide)) Fc.sm rfl rfl rfl fun cdv Ar outer s H E hr kk hp => w26 Fc A cdv Ar outer s H E hr kk hp
    | 27, hi => cases hi; exact fn_ok (g := f27) a.2 (C8.fnScope_by (N := d27.N) (by decide)) Fc.sm rfl rfl rfl fun cdv Ar outer s H E hr kk hp => w27 Fc A cdv Ar outer s H E hr kk hp
    | 28, hi => cases hi; exact fn_ok (g := f28) a.2 (C8.fnScope_by (N := d28.N) (by decide)) Fc.sm rfl rfl rfl fun cdv Ar outer s H E hr kk hp => w28 Fc A cdv Ar outer s H E hr kk hp
    | 29, hi => cases hi; exact fn_ok (g := f29) a.2 (C8.fnScope_by (N := d29.N) (by decide)) Fc.sm rfl rfl rfl fun cdv Ar outer s H E hr kk hp => w29 Fc A cdv Ar outer s H E hr kk hp
    | 30, hi => cases hi; exact fn_ok (g := f30) a.2 (C8.fnScope_by (N := d30.N) (by decide)) Fc.sm rfl rfl rfl fun cdv Ar outer s H E hr kk hp => w30 Fc A cdv Ar outer s H E hr kk hp
    | 31, hi => cases hi; exact fn_ok (g := f31) a.2 (C8.fnScope_by (N := d31.N) (by decide)) Fc.sm rfl rfl rfl fun cdv Ar outer s H E hr kk hp => w31 Fc A cdv Ar outer s H E hr kk hp
    | 32, hi => cases hi; exact fn_ok (g := f32) a.2 (C8.fnScope_by (N := d32.N) (by decide)) Fc.sm rfl rfl rfl fun cdv Ar outer s H E hr kk hp => w32 Fc A cdv Ar outer s H E hr kk hp
    | 33, hi => cases hi; exact fn_ok (g := f33) a.2 (C8.fnScope_by (N := d33.N) (by decide)) Fc.sm rfl rfl rfl fun cdv Ar outer s H E hr kk hp => w33 Fc A cdv Ar outer s H E hr kk hp
    | 34, hi => cases hi; exact fn_ok (g := f34) a.2 (C8.fnScope_by (N := d34.N) (by decide)) Fc.sm rfl rfl rfl fun cdv Ar outer s H E hr kk hp => w34 Fc A cdv Ar outer s H E hr kk hp
    | 35, hi => cases hi; exact fn_ok (g := f35) a.2 (C8.fnScope_by (N := d35.N) (by decide)) Fc.sm rfl rfl rfl fun cdv Ar outer s H E hr kk hp => w35 Fc A cdv Ar outer s H E hr kk hp
    | 36, hi => cases hi; exact fn_ok (g := f36) a.2 (C8.fnScope_by (N := d36.N) (by decide)) Fc.sm rfl rfl rfl fun cdv Ar outer s H E hr kk hp => w36 Fc A cdv Ar outer s H E hr kk hp
    | 37, hi => cases hi; exact fn_ok (g := f37) a.2 (C8.fnScope_by (N := d37.N) (by decide)) Fc.sm rfl rfl rfl fun cdv Ar outer s H E hr kk hp => w37 Fc A cdv Ar outer s H E hr kk hp
    | 38, hi => cases hi; exact fn_ok (g := f38) a.2 (C8.fnScope_by (N := d38.N) (by decide)) Fc.sm rfl rfl rfl fun cdv Ar outer s H E hr kk hp => w38 Fc A cdv Ar outer s H E hr kk hp
    | 39, hi => cases hi; exact fn_ok (g := f39) a.2 (C8.fnScope_by (N := d39.N) (by decide)) Fc.sm rfl rfl rfl fun cdv Ar outer s H E hr kk hp => w39 Fc A cdv Ar outer s H E hr kk hp
    | 40, hi => cases hi; exact fn_ok (g := f40) a.2 (C8.fnScope_by (N := d40.N) (by decide)) Fc.sm rfl rfl rfl fun cdv Ar outer s H E hr kk hp => w40 Fc A cdv Ar outer s H E hr kk hp
    | _ + 41, hi => exact absurd hi (by simp [dsc])
end Pk05
end
section -- A05
set_option Elab.async false
set_option linter.all false
set_option maxRecDepth 100000
set_option maxHeartbeats 4000000
namespace Pk05
open PySem L2 Mp
def Well (m : Sto) (w : Nat) (N : Nat) : Prop := ∃ a b c d : Int, m[w]? = some (.lst [.int a, .int b, .int c, .int d]) ∧ 0 ≤ a ∧ 0 ≤ b ∧ 0 ≤ c ∧ c ≤ N ∧ 0 ≤ d
/-- from m to m': the well w was drawn from at most c times, what else stood stands -/
structure Go (w : Nat) (c : Nat) (m m' : Sto) : Prop where
  len : m.length ≤ m'.length
  keep : ∀ i, i < m.length → i ≠ w → m'[i]? = m[i]?
  well : ∀ N, Well m w N → Well m' w (N + c)
theorem Go.refl {w : Nat} {m : Sto} : Go w 0 m m := ⟨Nat.le_refl _, fun _ _ _ => rfl, fun _ h => h⟩
theorem Well.mono {m : Sto} {w N N' : Nat} (h : Well m w N) (k : N ≤ N') : Well m w N' := by
  obtain ⟨a, b, c, d, e, h1, h2, h3, h4, h5⟩ := h
  exact ⟨a, b, c, d, e, h1, h2, h3, by omega, h5⟩
theorem Go.trans {w c c' : Nat} {m m1 m2 : Sto} (h : Go w c m m1) (k : Go w c' m1 m2) : Go w (c + c') m m2 :=
  ⟨Nat.le_trans h.len k.len, fun i hi hw => (k.keep i (Nat.lt_of_lt_of_le hi h.len) hw).trans (h.keep i hi hw), fun N hN => by rw [← Nat.add_assoc]; exact k.well _ (h.well _ hN)⟩
theorem Go.mono {w c c' : Nat} {m m1 : Sto} (h : Go w c m m1) (k : c ≤ c') : Go w c' m m1 := ⟨h.len, h.keep, fun N hN => (h.well N hN).mono (by omega)⟩
theorem Well.lt {m : Sto} {w N : Nat} (h : Well m w N) : w < m.length := by
  obtain ⟨a, b, c, d, e, _⟩ := h
  exact (List.getElem?_eq_some_iff.mp e).1
/-- a new cell -/
theorem Go.push {w N : Nat} {m : Sto} (h : Well m w N) (c : Cell) : Go w 0 m (m ++ [c]) := by
  have hl := h.lt
  refine ⟨by simp, fun i hi _ => by rw [List.getElem?_append_left hi], fun N hN => ?_⟩
  obtain ⟨a, b, c, d, e, r⟩ := hN
  exact ⟨a, b, c, d, by rw [List.getElem?_append_left hl]; exact e, r⟩
/-- a cell behind the start is changed -/
theorem Go.set {w n N c : Nat} {m m1 : Sto} (h : Go w c m m1) (hw : Well m w N) (hn : m.length ≤ n) (x : Cell) : Go w c m (m1.set n x) := by
  have hl := hw.lt
  refine ⟨by rw [List.length_set]; exact h.len, fun i hi hw => ?_, fun N hN => ?_⟩
  · rw [List.getElem?_set_ne (by omega)]; exact h.keep i hi hw
  · obtain ⟨a, b, c, d, e, r⟩ := h.well N hN
    exact ⟨a, b, c, d, by rw [List.getElem?_set_ne (by omega)]; exact e, r⟩
theorem draw {n w N : Nat} {k : Int} {m : Sto} (hw : Well m w N) (hN : N < 2 ^ 60) (hk : 0 < k) (hk2 : k < 1073741824) :
    wp (run F C (n + 1) 19 [.ref w, .int k]) m fun d m' => Go w 1 m m' ∧ ∃ r, d = .int r ∧ 0 ≤ r ∧ r < k := by
  have hl := hw.lt
  have go : ∀ {a b c d : Int}, 0 ≤ a → 0 ≤ b → 0 ≤ c → (∀ N, Well m w N → c ≤ N + 1) → 0 ≤ d → Go w 1 m (m.set w (.lst [.int a, .int b, .int c, .int d])) := fun {a b c d} h1 h2 h3 h4 h5 =>
    ⟨by rw [List.length_set]; omega, fun i hi hw => by rw [List.getElem?_set_ne (Ne.symm hw)], fun N hN => ⟨a, b, c, d, by rw [List.getElem?_set_self hl], h1, h2, h3, by have := h4 N hN; omega, h5⟩⟩
  have hw0 := hw
  obtain ⟨a, b, c, d, e, ha, hb, hc, hcN, hd⟩ := hw
  have cN : ∀ N, Well m w N → c ≤ N := fun N ⟨a', b', c', d', e', _, _, _, q, _⟩ => by
    rw [e] at e'; simp at e'; omega
  refine wp_run (g := f19) rfl rfl ?_
  by_cases h : 0 < a
  · simp [f19, b19, i_ref e, hk, hk2, Tgs.len, wp_setD e, h, ixN]
    exact ⟨go (Int.ediv_nonneg ha (by omega)) hb hc (fun N hN => by have := cN N hN; omega) hd, Int.emod_nonneg _ (by omega), Int.emod_lt_of_pos _ hk⟩
  · have e2 : ∀ x : Cell, (m.set w x)[w]? = some x := fun x => List.getElem?_set_self hl
    have hcc : c < 2 ^ 61 := by have := cN N hw0; omega
    have hm : mulOk (3 * (c + 1)) (c + 1) = true := mulOk_r (by omega) (by omega)
    simp [f19, b19, i_ref e, hk, hk2, wp_setD e, h, ixN, i_ref (e2 _), wp_setD (e2 _), mulOk_r, mulOk_l, hm]
    refine ⟨go ha (Int.emod_nonneg _ (by decide)) (by omega) (fun N hN => by have := cN N hN; omega) hd, Int.emod_nonneg _ (by omega), Int.emod_lt_of_pos _ hk⟩
theorem pick {n w N : Nat} {xs : List D} {m : Sto} (hw : Well m w N) (hN : N < 2 ^ 60) (h0 : xs ≠ []) (h1 : xs.length < 1073741824) :
    wp (run F C (n + 2) 20 [.ref w, .tup xs] ) m fun d m' => Go w 1 m m' ∧ d ∈ xs := by
  refine wp_run (g := f20) rfl rfl ?_
  have hl : 0 < xs.length := List.length_pos_iff.mpr h0
  simp [f20, b20]
  refine wp_mono (draw hw hN (by omega) (by omega)) fun d m1 ⟨go, r, er, r0, r1⟩ => ?_
  subst er
  obtain ⟨x, e, hx⟩ := atI_mem r0 r1
  simp [e]
  exact ⟨go, hx⟩
@[simp] theorem q_list_list : eqG (.str "list") (.str "list") = some true := by decide +kernel
@[simp] theorem qd_list_list : eqD (.str "list") (.str "list") = some true := by decide +kernel
@[simp] theorem q_list_pair : eqG (.str "list") (.str "pair") = some false := by decide +kernel
@[simp] theorem qd_list_pair : eqD (.str "list") (.str "pair") = some false := by decide +kernel
@[simp] theorem q_list_either : eqG (.str "list") (.str "either") = some false := by decide +kernel
@[simp] theorem qd_list_either : eqD (.str "list") (.str "either") = some false := by decide +kernel
@[simp] theorem q_list_fun : eqG (.str "list") (.str "fun") = some false := by decide +kernel
@[simp] theorem qd_list_fun : eqD (.str "list") (.str "fun") = some false := by decide +kernel
@[simp] theorem q_list_unit : eqG (.str "list") (.str "unit") = some false := by decide +kernel
@[simp] theorem qd_list_unit : eqD (.str "list") (.str "unit") = some false := by decide +kernel
@[simp] theorem q_list_num : eqG (.str "list") (.str "num") = some false := by decide +kernel
@[simp] theorem qd_list_num : eqD (.str "list") (.str "num") = some false := by decide +kernel
@[simp] theorem q_list_var : eqG (.str "list") (.str "var") = some false := by decide +kernel
@[simp] theorem qd_list_var : eqD (.str "list") (.str "var") = some false := by decide +kernel
@[simp] theorem q_list_a : eqG (.str "list") (.str "a") = some false := by decide +kernel
@[simp] theorem qd_list_a : eqD (.str "list") (.str "a") = some false := by decide +kernel
@[simp] theorem q_list_b : eqG (.str "list") (.str "b") = some false := by decide +kernel
@[simp] theorem qd_list_b : eqD (.str "list") (.str "b") = some false := by decide +kernel
@[simp] theorem q_list_c : eqG (.str "list") (.str "c") = some false := by decide +kernel
@[simp] theorem qd_list_c : eqD (.str "list") (.str "c") = some false := by decide +kernel
@[simp] theorem q_pair_list : eqG (.str "pair") (.str "list") = some false := by decide +kernel
@[simp] theorem qd_pair_list : eqD (.str "pair") (.str "list") = some false := by decide +kernel
@[simp] theorem q_pair_pair : eqG (.str "pair") (.str "pair") = some true := by decide +kernel
@[simp] theorem qd_pair_pair : eqD (.str "pair") (.str "pair") = some true := by decide +kernel
@[simp] theorem q_pair_either : eqG (.str "pair") (.str "either") = some false := by decide +kernel
@[simp] theorem qd_pair_either : eqD (.str "pair") (.str "either") = some false := by decide +kernel
@[simp] theorem q_pair_fun : eqG (.str "pair") (.str "fun") = some false := by decide +kernel
@[simp] theorem qd_pair_fun : eqD (.str "pair") (.str "fun") = some false := by decide +kernel
@[simp] theorem q_pair_unit : eqG (.str "pair") (.str "unit") = some false := by decide +kernel
@[simp] theorem qd_pair_unit : eqD (.str "pair") (.str "unit") = some false := by decide +kernel
@[simp] theorem q_pair_num : eqG (.str "pair") (.str "num") = some false := by decide +kernel
@[simp] theorem qd_pair_num : eqD (.str "pair") (.str "num") = some false := by decide +kernel
@[simp] theorem q_pair_var : eqG (.str "pair") (.str "var") = some false := by decide +kernel
@[simp] theorem qd_pair_var : eqD (.str "pair") (.str "var") = some false := by decide +kernel
@[simp] theorem q_pair_a : eqG (.str "pair") (.str "a") = some false := by decide +kernel
@[simp] theorem qd_pair_a : eqD (.str "pair") (.str "a") = some false := by decide +kernel
@[simp] theorem q_pair_b : eqG (.str "pair") (.str "b") = some false := by decide +kernel
@[simp] theorem qd_pair_b : eqD (.str "pair") (.str "b") = some false := by decide +kernel
@[simp] theorem q_pair_c : eqG (.str "pair") (.str "c") = some false := by decide +kernel
@[simp] theorem qd_pair_c : eqD (.str "pair") (.str "c") = some false := by decide +kernel
@[simp] theorem q_either_list : eqG (.str "either") (.str "list") = some false := by decide +kernel
@[simp] theorem qd_either_list : eqD (.str "either") (.str "list") = some false := by decide +kernel
@[simp] theorem q_either_pair : eqG (.str "either") (.str "pair") = some false := by decide +kernel
@[simp] theorem qd_either_pair : eqD (.str "either") (.str "pair") = some false := by decide +kernel
@[simp] theorem q_either_either : eqG (.str "either") (.str "either") = some true := by decide +kernel
@[simp] theorem qd_either_either : eqD (.str "either") (.str "either") = some true := by decide +kernel
@[simp] theorem q_either_fun : eqG (.str "either") (.str "fun") = some false := by decide +kernel
@[simp] theorem qd_either_fun : eqD (.str "either") (.str "fun") = some false := by decide +kernel
@[simp] theorem q_either_unit : eqG (.str "either") (.str "unit") = some false := by decide +kernel
@[simp] theorem qd_either_unit : eqD (.str "either") (.str "unit") = some false := by decide +kernel
@[simp] theorem q_either_num : eqG (.str "either") (.str "num") = some false := by decide +kernel
@[simp] theorem qd_either_num : eqD (.str "either") (.str "num") = some false := by decide +kernel
@[simp] theorem q_either_var : eqG (.str "either") (.str "var") = some false := by decide +kernel
@[simp] theorem qd_either_var : eqD (.str "either") (.str "var") = some false := by decide +kernel
@[simp] theorem q_either_a : eqG (.str "either") (.str "a") = some false := by decide +kernel
@[simp] theorem qd_either_a : eqD (.str "either") (.str "a") = some false := by decide +kernel
@[simp] theorem q_either_b : eqG (.str "either") (.str "b") = some false := by decide +kernel
@[simp] theorem qd_either_b : eqD (.str "either") (.str "b") = some false := by decide +kernel
@[simp] theorem q_either_c : eqG (.str "either") (.str "c") = some false := by decide +kernel
@[simp] theorem qd_either_c : eqD (.str "either") (.str "c") = some false := by decide +kernel
@[simp] theorem q_fun_list : eqG (.str "fun") (.str "list") = some false := by decide +kernel
@[simp] theorem qd_fun_list : eqD (.str "fun") (.str "list") = some false := by decide +kernel
@[simp] theorem q_fun_pair : eqG (.str "fun") (.str "pair") = some false := by decide +kernel
@[simp] theorem qd_fun_pair : eqD (.str "fun") (.str "pair") = some false := by decide +kernel
@[simp] theorem q_fun_either : eqG (.str "fun") (.str "either") = some false := by decide +kernel
@[simp] theorem qd_fun_either : eqD (.str "fun") (.str "either") = some false := by decide +kernel
@[simp] theorem q_fun_fun : eqG (.str "fun") (.str "fun") = some true := by decide +kernel
@[simp] theorem qd_fun_fun : eqD (.str "fun") (.str "fun") = some true := by decide +kernel
@[simp] theorem q_fun_unit : eqG (.str "fun") (.str "unit") = some false := by decide +kernel
@[simp] theorem qd_fun_unit : eqD (.str "fun") (.str "unit") = some false := by decide +kernel
@[simp] theorem q_fun_num : eqG (.str "fun") (.str "num") = some false := by decide +kernel
@[simp] theorem qd_fun_num : eqD (.str "fun") (.str "num") = some false := by decide +kernel
@[simp] theorem q_fun_var : eqG (.str "fun") (.str "var") = some false := by decide +kernel
@[simp] theorem qd_fun_var : eqD (.str "fun") (.str "var") = some false := by decide +kernel
@[simp] theorem q_fun_a : eqG (.str "fun") (.str "a") = some false := by decide +kernel
@[simp] theorem qd_fun_a : eqD (.str "fun") (.str "a") = some false := by decide +kernel
@[simp] theorem q_fun_b : eqG (.str "fun") (.str "b") = some false := by decide +kernel
@[simp] theorem qd_fun_b : eqD (.str "fun") (.str "b") = some false := by decide +kernel
@[simp] theorem q_fun_c : eqG (.str "fun") (.str "c") = some false := by decide +kernel
@[simp] theorem qd_fun_c : eqD (.str "fun") (.str "c") = some false := by decide +kernel
@[simp] theorem q_unit_list : eqG (.str "unit") (.str "list") = some false := by decide +kernel
@[simp] theorem qd_unit_list : eqD (.str "unit") (.str "list") = some false := by decide +kernel
@[simp] theorem q_unit_pair : eqG (.str "unit") (.str "pair") = some false := by decide +kernel
@[simp] theorem qd_unit_pair : eqD (.str "unit") (.str "pair") = some false := by decide +kernel
@[simp] theorem q_unit_either : eqG (.str "unit") (.str "either") = some false := by decide +kernel
@[simp] theorem qd_unit_either : eqD (.str "unit") (.str "either") = some false := by decide +kernel
@[simp] theorem q_unit_fun : eqG (.str "unit") (.str "fun") = some false := by decide +kernel
@[simp] theorem qd_unit_fun : eqD (.str "unit") (.str "fun") = some false := by decide +kernel
@[simp] theorem q_unit_unit : eqG (.str "unit") (.str "unit") = some true := by decide +kernel
@[simp] theorem qd_unit_unit : eqD (.str "unit") (.str "unit") = some true := by decide +kernel
@[simp] theorem q_unit_num : eqG (.str "unit") (.str "num") = some false := by decide +kernel
@[simp] theorem qd_unit_num : eqD (.str "unit") (.str "num") = some false := by decide +kernel
@[simp] theorem q_unit_var : eqG (.str "unit") (.str "var") = some false := by decide +kernel
@[simp] theorem qd_unit_var : eqD (.str "unit") (.str "var") = some false := by decide +kernel
@[simp] theorem q_unit_a : eqG (.str "unit") (.str "a") = some false := by decide +kernel
@[simp] theorem qd_unit_a : eqD (.str "unit") (.str "a") = some false := by decide +kernel
@[simp] theorem q_unit_b : eqG (.str "unit") (.str "b") = some false := by decide +kernel
@[simp] theorem qd_unit_b : eqD (.str "unit") (.str "b") = some false := by decide +kernel
@[simp] theorem q_unit_c : eqG (.str "unit") (.str "c") = some false := by decide +kernel
@[simp] theorem qd_unit_c : eqD (.str "unit") (.str "c") = some false := by decide +kernel
@[simp] theorem q_num_list : eqG (.str "num") (.str "list") = some false := by decide +kernel
@[simp] theorem qd_num_list : eqD (.str "num") (.str "list") = some false := by decide +kernel
@[simp] theorem q_num_pair : eqG (.str "num") (.str "pair") = some false := by decide +kernel
@[simp] theorem qd_num_pair : eqD (.str "num") (.str "pair") = some false := by decide +kernel
@[simp] theorem q_num_either : eqG (.str "num") (.str "either") = some false := by decide +kernel
@[simp] theorem qd_num_either : eqD (.str "num") (.str "either") = some false := by decide +kernel
@[simp] theorem q_num_fun : eqG (.str "num") (.str "fun") = some false := by decide +kernel
@[simp] theorem qd_num_fun : eqD (.str "num") (.str "fun") = some false := by decide +kernel
@[simp] theorem q_num_unit : eqG (.str "num") (.str "unit") = some false := by decide +kernel
@[simp] theorem qd_num_unit : eqD (.str "num") (.str "unit") = some false := by decide +kernel
@[simp] theorem q_num_num : eqG (.str "num") (.str "num") = some true := by decide +kernel
@[simp] theorem qd_num_num : eqD (.str "num") (.str "num") = some true := by decide +kernel
@[simp] theorem q_num_var : eqG (.str "num") (.str "var") = some false := by decide +kernel
@[simp] theorem qd_num_var : eqD (.str "num") (.str "var") = some false := by decide +kernel
@[simp] theorem q_num_a : eqG (.str "num") (.str "a") = some false := by decide +kernel
@[simp] theorem qd_num_a : eqD (.str "num") (.str "a") = some false := by decide +kernel
@[simp] theorem q_num_b : eqG (.str "num") (.str "b") = some false := by decide +kernel
@[simp] theorem qd_num_b : eqD (.str "num") (.str "b") = some false := by decide +kernel
@[simp] theorem q_num_c : eqG (.str "num") (.str "c") = some false := by decide +kernel
@[simp] theorem qd_num_c : eqD (.str "num") (.str "c") = some false := by decide +kernel
@[simp] theorem q_var_list : eqG (.str "var") (.str "list") = some false := by decide +kernel
@[simp] theorem qd_var_list : eqD (.str "var") (.str "list") = some false := by decide +kernel
@[simp] theorem q_var_pair : eqG (.str "var") (.str "pair") = some false := by decide +kernel
@[simp] theorem qd_var_pair : eqD (.str "var") (.str "pair") = some false := by decide +kernel
@[simp] theorem q_var_either : eqG (.str "var") (.str "either") = some false := by decide +kernel
@[simp] theorem qd_var_either : eqD (.str "var") (.str "either") = some false := by decide +kernel
@[simp] theorem q_var_fun : eqG (.str "var") (.str "fun") = some false := by decide +kernel
@[simp] theorem qd_var_fun : eqD (.str "var") (.str "fun") = some false := by decide +kernel
@[simp] theorem q_var_unit : eqG (.str "var") (.str "unit") = some false := by decide +kernel
@[simp] theorem qd_var_unit : eqD (.str "var") (.str "unit") = some false := by decide +kernel
@[simp] theorem q_var_num : eqG (.str "var") (.str "num") = some false := by decide +kernel
@[simp] theorem qd_var_num : eqD (.str "var") (.str "num") = some false := by decide +kernel
@[simp] theorem q_var_var : eqG (.str "var") (.str "var") = some true := by decide +kernel
@[simp] theorem qd_var_var : eqD (.str "var") (.str "var") = some true := by decide +kernel
@[simp] theorem q_var_a : eqG (.str "var") (.str "a") = some false := by decide +kernel
@[simp] theorem qd_var_a : eqD (.str "var") (.str "a") = some false := by decide +kernel
@[simp] theorem q_var_b : eqG (.str "var") (.str "b") = some false := by decide +kernel
@[simp] theorem qd_var_b : eqD (.str "var") (.str "b") = some false := by decide +kernel
@[simp] theorem q_var_c : eqG (.str "var") (.str "c") = some false := by decide +kernel
@[simp] theorem qd_var_c : eqD (.str "var") (.str "c") = some false := by decide +kernel
@[simp] theorem q_a_list : eqG (.str "a") (.str "list") = some false := by decide +kernel
@[simp] theorem qd_a_list : eqD (.str "a") (.str "list") = some false := by decide +kernel
@[simp] theorem q_a_pair : eqG (.str "a") (.str "pair") = some false := by decide +kernel
@[simp] theorem qd_a_pair : eqD (.str "a") (.str "pair") = some false := by decide +kernel
@[simp] theorem q_a_either : eqG (.str "a") (.str "either") = some false := by decide +kernel
@[simp] theorem qd_a_either : eqD (.str "a") (.str "either") = some false := by decide +kernel
@[simp] theorem q_a_fun : eqG (.str "a") (.str "fun") = some false := by decide +kernel
@[simp] theorem qd_a_fun : eqD (.str "a") (.str "fun") = some false := by decide +kernel
@[simp] theorem q_a_unit : eqG (.str "a") (.str "unit") = some false := by decide +kernel
@[simp] theorem qd_a_unit : eqD (.str "a") (.str "unit") = some false := by decide +kernel
@[simp] theorem q_a_num : eqG (.str "a") (.str "num") = some false := by decide +kernel
@[simp] theorem qd_a_num : eqD (.str "a") (.str "num") = some false := by decide +kernel
@[simp] theorem q_a_var : eqG (.str "a") (.str "var") = some false := by decide +kernel
@[simp] theorem qd_a_var : eqD (.str "a") (.str "var") = some false := by decide +kernel
@[simp] theorem q_a_a : eqG (.str "a") (.str "a") = some true := by decide +kernel
@[simp] theorem qd_a_a : eqD (.str "a") (.str "a") = some true := by decide +kernel
@[simp] theorem q_a_b : eqG (.str "a") (.str "b") = some false := by decide +kernel
@[simp] theorem qd_a_b : eqD (.str "a") (.str "b") = some false := by decide +kernel
@[simp] theorem q_a_c : eqG (.str "a") (.str "c") = some false := by decide +kernel
@[simp] theorem qd_a_c : eqD (.str "a") (.str "c") = some false := by decide +kernel
@[simp] theorem q_b_list : eqG (.str "b") (.str "list") = some false := by decide +kernel
@[simp] theorem qd_b_list : eqD (.str "b") (.str "list") = some false := by decide +kernel
@[simp] theorem q_b_pair : eqG (.str "b") (.str "pair") = some false := by decide +kernel
@[simp] theorem qd_b_pair : eqD (.str "b") (.str "pair") = some false := by decide +kernel
@[simp] theorem q_b_either : eqG (.str "b") (.str "either") = some false := by decide +kernel
@[simp] theorem qd_b_either : eqD (.str "b") (.str "either") = some false := by decide +kernel
@[simp] theorem q_b_fun : eqG (.str "b") (.str "fun") = some false := by decide +kernel
@[simp] theorem qd_b_fun : eqD (.str "b") (.str "fun") = some false := by decide +kernel
@[simp] theorem q_b_unit : eqG (.str "b") (.str "unit") = some false := by decide +kernel
@[simp] theorem qd_b_unit : eqD (.str "b") (.str "unit") = some false := by decide +kernel
@[simp] theorem q_b_num : eqG (.str "b") (.str "num") = some false := by decide +kernel
@[simp] theorem qd_b_num : eqD (.str "b") (.str "num") = some false := by decide +kernel
@[simp] theorem q_b_var : eqG (.str "b") (.str "var") = some false := by decide +kernel
@[simp] theorem qd_b_var : eqD (.str "b") (.str "var") = some false := by decide +kernel
@[simp] theorem q_b_a : eqG (.str "b") (.str "a") = some false := by decide +kernel
@[simp] theorem qd_b_a : eqD (.str "b") (.str "a") = some false := by decide +kernel
@[simp] theorem q_b_b : eqG (.str "b") (.str "b") = some true := by decide +kernel
@[simp] theorem qd_b_b : eqD (.str "b") (.str "b") = some true := by decide +kernel
@[simp] theorem q_b_c : eqG (.str "b") (.str "c") = some false := by decide +kernel
@[simp] theorem qd_b_c : eqD (.str "b") (.str "c") = some false := by decide +kernel
@[simp] theorem q_c_list : eqG (.str "c") (.str "list") = some false := by decide +kernel
@[simp] theorem qd_c_list : eqD (.str "c") (.str "list") = some false := by decide +kernel
@[simp] theorem q_c_pair : eqG (.str "c") (.str "pair") = some false := by decide +kernel
@[simp] theorem qd_c_pair : eqD (.str "c") (.str "pair") = some false := by decide +kernel
@[simp] theorem q_c_either : eqG (.str "c") (.str "either") = some false := by decide +kernel
@[simp] theorem qd_c_either : eqD (.str "c") (.str "either") = some false := by decide +kernel
@[simp] theorem q_c_fun : eqG (.str "c") (.str "fun") = some false := by decide +kernel
@[simp] theorem qd_c_fun : eqD (.str "c") (.str "fun") = some false := by decide +kernel
@[simp] theorem q_c_unit : eqG (.str "c") (.str "unit") = some false := by decide +kernel
@[simp] theorem qd_c_unit : eqD (.str "c") (.str "unit") = some false := by decide +kernel
@[simp] theorem q_c_num : eqG (.str "c") (.str "num") = some false := by decide +kernel
@[simp] theorem qd_c_num : eqD (.str "c") (.str "num") = some false := by decide +kernel
@[simp] theorem q_c_var : eqG (.str "c") (.str "var") = some false := by decide +kernel
@[simp] theorem qd_c_var : eqD (.str "c") (.str "var") = some false := by decide +kernel
@[simp] theorem q_c_a : eqG (.str "c") (.str "a") = some false := by decide +kernel
@[simp] theorem qd_c_a : eqD (.str "c") (.str "a") = some false := by decide +kernel
@[simp] theorem q_c_b : eqG (.str "c") (.str "b") = some false := by decide +kernel
@[simp] theorem qd_c_b : eqD (.str "c") (.str "b") = some false := by decide +kernel
@[simp] theorem q_c_c : eqG (.str "c") (.str "c") = some true := by decide +kernel
@[simp] theorem qd_c_c : eqD (.str "c") (.str "c") = some true := by decide +kernel
@[simp] theorem n_list_pair : (("list" : Str) = "pair") = False := eq_false (by decide +kernel)
@[simp] theorem n_list_either : (("list" : Str) = "either") = False := eq_false (by decide +kernel)
@[simp] theorem n_list_fun : (("list" : Str) = "fun") = False := eq_false (by decide +kernel)
@[simp] theorem n_list_unit : (("list" : Str) = "unit") = False := eq_false (by decide +kernel)
@[simp] theorem n_list_num : (("list" : Str) = "num") = False := eq_false (by decide +kernel)
@[simp] theorem n_list_var : (("list" : Str) = "var") = False := eq_false (by decide +kernel)
@[simp] theorem n_list_a : (("list" : Str) = "a") = False := eq_false (by decide +kernel)
@[simp] theorem n_list_b : (("list" : Str) = "b") = False := eq_false (by decide +kernel)
@[simp] theorem n_list_c : (("list" : Str) = "c") = False := eq_false (by decide +kernel)
@[simp] theorem n_pair_list : (("pair" : Str) = "list") = False := eq_false (by decide +kernel)
@[simp] theorem n_pair_either : (("pair" : Str) = "either") = False := eq_false (by decide +kernel)
@[simp] theorem n_pair_fun : (("pair" : Str) = "fun") = False := eq_false (by decide +kernel)
@[simp] theorem n_pair_unit : (("pair" : Str) = "unit") = False := eq_false (by decide +kernel)
@[simp] theorem n_pair_num : (("pair" : Str) = "num") = False := eq_false (by decide +kernel)
@[simp] theorem n_pair_var : (("pair" : Str) = "var") = False := eq_false (by decide +kernel)
@[simp] theorem n_pair_a : (("pair" : Str) = "a") = False := eq_false (by decide +kernel)
@[simp] theorem n_pair_b : (("pair" : Str) = "b") = False := eq_false (by decide +kernel)
@[simp] theorem n_pair_c : (("pair" : Str) = "c") = False := eq_false (by decide +kernel)
@[simp] theorem n_either_list : (("either" : Str) = "list") = False := eq_false (by decide +kernel)
@[simp] theorem n_either_pair : (("either" : Str) = "pair") = False := eq_false (by decide +kernel)
@[simp] theorem n_either_fun : (("either" : Str) = "fun") = False := eq_false (by decide +kernel)
@[simp] theorem n_either_unit : (("either" : Str) = "unit") = False := eq_false (by decide +kernel)
@[simp] theorem n_either_num : (("either" : Str) = "num") = False := eq_false (by decide +kernel)
@[simp] theorem n_either_var : (("either" : Str) = "var") = False := eq_false (by decide +kernel)
@[simp] theorem n_either_a : (("either" : Str) = "a") = False := eq_false (by decide +kernel)
@[simp] theorem n_either_b : (("either" : Str) = "b") = False := eq_false (by decide +kernel)
@[simp] theorem n_either_c : (("either" : Str) = "c") = False := eq_false (by decide +kernel)
@[simp] theorem n_fun_list : (("fun" : Str) = "list") = False := eq_false (by decide +kernel)
@[simp] theorem n_fun_pair : (("fun" : Str) = "pair") = False := eq_false (by decide +kernel)
@[simp] theorem n_fun_either : (("fun" : Str) = "either") = False := eq_false (by decide +kernel)
@[simp] theorem n_fun_unit : (("fun" : Str) = "unit") = False := eq_false (by decide +kernel)
@[simp] theorem n_fun_num : (("fun" : Str) = "num") = False := eq_false (by decide +kernel)
@[simp] theorem n_fun_var : (("fun" : Str) = "var") = False := eq_false (by decide +kernel)
@[simp] theorem n_fun_a : (("fun" : Str) = "a") = False := eq_false (by decide +kernel)
@[simp] theorem n_fun_b : (("fun" : Str) = "b") = False := eq_false (by decide +kernel)
@[simp] theorem n_fun_c : (("fun" : Str) = "c") = False := eq_false (by decide +kernel)
@[simp] theorem n_unit_list : (("unit" : Str) = "list") = False := eq_false (by decide +kernel)
@[simp] theorem n_unit_pair : (("unit" : Str) = "pair") = False := eq_false (by decide +kernel)
@[simp] theorem n_unit_either : (("unit" : Str) = "either") = False := eq_false (by decide +kernel)
@[simp] theorem n_unit_fun : (("unit" : Str) = "fun") = False := eq_false (by decide +kernel)
@[simp] theorem n_unit_num : (("unit" : Str) = "num") = False := eq_false (by decide +kernel)
@[simp] theorem n_unit_var : (("unit" : Str) = "var") = False := eq_false (by decide +kernel)
@[simp] theorem n_unit_a : (("unit" : Str) = "a") = False := eq_false (by decide +kernel)
@[simp] theorem n_unit_b : (("unit" : Str) = "b") = False := eq_false (by decide +kernel)
@[simp] theorem n_unit_c : (("unit" : Str) = "c") = False := eq_false (by decide +kernel)
@[simp] theorem n_num_list : (("num" : Str) = "list") = False := eq_false (by decide +kernel)
@[simp] theorem n_num_pair : (("num" : Str) = "pair") = False := eq_false (by decide +kernel)
@[simp] theorem n_num_either : (("num" : Str) = "either") = False := eq_false (by decide +kernel)
@[simp] theorem n_num_fun : (("num" : Str) = "fun") = False := eq_false (by decide +kernel)
@[simp] theorem n_num_unit : (("num" : Str) = "unit") = False := eq_false (by decide +kernel)
@[simp] theorem n_num_var : (("num" : Str) = "var") = False := eq_false (by decide +kernel)
@[simp] theorem n_num_a : (("num" : Str) = "a") = False := eq_false (by decide +kernel)
@[simp] theorem n_num_b : (("num" : Str) = "b") = False := eq_false (by decide +kernel)
@[simp] theorem n_num_c : (("num" : Str) = "c") = False := eq_false (by decide +kernel)
@[simp] theorem n_var_list : (("var" : Str) = "list") = False := eq_false (by decide +kernel)
@[simp] theorem n_var_pair : (("var" : Str) = "pair") = False := eq_false (by decide +kernel)
@[simp] theorem n_var_either : (("var" : Str) = "either") = False := eq_false (by decide +kernel)
@[simp] theorem n_var_fun : (("var" : Str) = "fun") = False := eq_false (by decide +kernel)
@[simp] theorem n_var_unit : (("var" : Str) = "unit") = False := eq_false (by decide +kernel)
@[simp] theorem n_var_num : (("var" : Str) = "num") = False := eq_false (by decide +kernel)
@[simp] theorem n_var_a : (("var" : Str) = "a") = False := eq_false (by decide +kernel)
@[simp] theorem n_var_b : (("var" : Str) = "b") = False := eq_false (by decide +kernel)
@[simp] theorem n_var_c : (("var" : Str) = "c") = False := eq_false (by decide +kernel)
@[simp] theorem n_a_list : (("a" : Str) = "list") = False := eq_false (by decide +kernel)
@[simp] theorem n_a_pair : (("a" : Str) = "pair") = False := eq_false (by decide +kernel)
@[simp] theorem n_a_either : (("a" : Str) = "either") = False := eq_false (by decide +kernel)
@[simp] theorem n_a_fun : (("a" : Str) = "fun") = False := eq_false (by decide +kernel)
@[simp] theorem n_a_unit : (("a" : Str) = "unit") = False := eq_false (by decide +kernel)
@[simp] theorem n_a_num : (("a" : Str) = "num") = False := eq_false (by decide +kernel)
@[simp] theorem n_a_var : (("a" : Str) = "var") = False := eq_false (by decide +kernel)
@[simp] theorem n_a_b : (("a" : Str) = "b") = False := eq_false (by decide +kernel)
@[simp] theorem n_a_c : (("a" : Str) = "c") = False := eq_false (by decide +kernel)
@[simp] theorem n_b_list : (("b" : Str) = "list") = False := eq_false (by decide +kernel)
@[simp] theorem n_b_pair : (("b" : Str) = "pair") = False := eq_false (by decide +kernel)
@[simp] theorem n_b_either : (("b" : Str) = "either") = False := eq_false (by decide +kernel)
@[simp] theorem n_b_fun : (("b" : Str) = "fun") = False := eq_false (by decide +kernel)
@[simp] theorem n_b_unit : (("b" : Str) = "unit") = False := eq_false (by decide +kernel)
@[simp] theorem n_b_num : (("b" : Str) = "num") = False := eq_false (by decide +kernel)
@[simp] theorem n_b_var : (("b" : Str) = "var") = False := eq_false (by decide +kernel)
@[simp] theorem n_b_a : (("b" : Str) = "a") = False := eq_false (by decide +kernel)
@[simp] theorem n_b_c : (("b" : Str) = "c") = False := eq_false (by decide +kernel)
@[simp] theorem n_c_list : (("c" : Str) = "list") = False := eq_false (by decide +kernel)
@[simp] theorem n_c_pair : (("c" : Str) = "pair") = False := eq_false (by decide +kernel)
@[simp] theorem n_c_either : (("c" : Str) = "either") = False := eq_false (by decide +kernel)
@[simp] theorem n_c_fun : (("c" : Str) = "fun") = False := eq_false (by decide +kernel)
@[simp] theorem n_c_unit : (("c" : Str) = "unit") = False := eq_false (by decide +kernel)
@[simp] theorem n_c_num : (("c" : Str) = "num") = False := eq_false (by decide +kernel)
@[simp] theorem n_c_var : (("c" : Str) = "var") = False := eq_false (by decide +kernel)
@[simp] theorem n_c_a : (("c" : Str) = "a") = False := eq_false (by decide +kernel)
@[simp] theorem n_c_b : (("c" : Str) = "b") = False := eq_false (by decide +kernel)
theorem key_eq {x y : Str} : ((Sum.inr x : Key) = Sum.inr y) = (x = y) := by simp
mutual
/-- a bound of the text that shows it -/
def sl : D → Nat
  | .int _ => 320
  | .str x => (reprText x).length
  | .tup xs => slL xs + 3
  | .lst xs => slL xs + 3
  | _ => 5
def slL : List D → Nat
  | [] => 0
  | x :: xs => sl x + 2 + slL xs
end
mutual
def dpt : D → Nat
  | .tup xs => dptL xs + 1
  | .lst xs => dptL xs + 1
  | .dct _ _ => 1
  | _ => 0
def dptL : List D → Nat
  | [] => 0
  | x :: xs => max (dpt x) (dptL xs)
end
mutual
/-- it can be shown; its ints are below that bound -/
def shw (b : Nat) : D → Prop
  | .non => True
  | .bl _ => True
  | .int i => i.natAbs ≤ b
  | .str x => PyData.strOk x = true
  | .tup xs => shwL b xs
  | .lst xs => shwL b xs
  | .dct ks ds => ks = [] ∧ ds = []
  | .wdc _ _ => False
  | .ref _ => False
def shwL (b : Nat) : List D → Prop
  | [] => True
  | x :: xs => shw b x ∧ shwL b xs
end
theorem piled_le : ∀ (ts : List Str), (Str.join ", " ts).length ≤ piled ts
  | [] => Nat.le_of_eq rfl
  | x :: r => by have := join_length_add (x :: r) (by simp); omega
theorem textFrom_le : ∀ (ts : List Str) (k : Nat) (acc : Str), (textFrom k acc ts).length ≤ acc.length + piled ts
  | [], k, acc => by show acc.length ≤ _; omega
  | t :: r, k, acc => by
    have ih := textFrom_le r (k + 1) (acc ++ (if k > 0 then ", " else "" : String) ++ t)
    have e : (acc ++ (if k > 0 then ", " else "" : String) ++ t).length = acc.length + (if k > 0 then 2 else 0) + t.length := by
      rw [strLen_append, strLen_append]
      by_cases h : k > 0 <;> simp [h] <;> rfl
    have e2 : (if k > 0 then 2 else 0) ≤ 2 := by split <;> omega
    show (textFrom (k + 1) (acc ++ (if k > 0 then ", " else "" : String) ++ t) r).length ≤ _
    rw [piled_cons]
    omega
theorem tupleText_le (ts : List Str) : (tupleText ts).length ≤ piled ts + 3 := by
  have h := piled_le ts
  unfold tupleText
  rw [strLen_append, strLen_append]
  have e1 : (("(" : String) : Str).length = 1 := rfl
  have e2 : ((if ts.length == 1 then ",)" else ")" : String) : Str).length ≤ 2 := by split <;> decide
  omega
theorem listText_le (ts : List Str) : (listText ts).length ≤ piled ts + 3 := by
  have h := textFrom_le ts 0 "["
  unfold listText
  rw [strLen_append]
  have e1 : (("[" : String) : Str).length = 1 := rfl
  have e2 : (("]" : String) : Str).length = 1 := rfl
  omega
mutual
theorem shown_ok {b : Nat} (hb : b < 10 ^ 310) : ∀ (d : D), shw b d → ∃ p, toPy d = some p ∧ p.showable = true ∧ p.shown.length ≤ sl d ∧ p.depth ≤ dpt d
  | .non, _ => ⟨.none, rfl, rfl, by decide, Nat.le_refl _⟩
  | .bl c, _ => ⟨.bool c, rfl, rfl, by cases c <;> decide, Nat.le_refl _⟩
  | .int i, h => by
    simp only [shw] at h
    refine ⟨.int i, rfl, ?_, ?_, Nat.le_refl _⟩
    · simp only [PyData.showable, decide_eq_true_eq]
      by_cases h0 : i.natAbs = 0
      · rw [h0]; decide
      · rw [Nat.log2_lt h0]
        exact Nat.lt_of_lt_of_le (Nat.lt_of_le_of_lt h hb) (by decide +kernel)
    · simp only [PyData.shown, sl]
      have := int_text_length_le10 (a := i) (k := 310) (by decide) (Nat.lt_of_le_of_lt h hb)
      have e : ((toString i : String) : Str).length = (toString i).length := ofString_length _
      show ((toString i : String) : Str).length ≤ 320
      omega
  | .str x, h => ⟨.str x, rfl, rfl, by simp only [PyData.shown, sl]; exact Nat.le_refl _, Nat.le_refl _⟩
  | .tup xs, h => by
    simp only [shw] at h
    obtain ⟨ps, e1, e2, e3, e4⟩ := shown_okL hb xs h
    refine ⟨.tuple ps, by simp only [toPy, e1, Option.map_some], by simpa only [PyData.showable] using e2, ?_, ?_⟩
    · simp only [PyData.shown, sl]
      have := tupleText_le (PyData.shownAll ps)
      omega
    · simp only [PyData.depth, dpt]; omega
  | .lst xs, h => by
    simp only [shw] at h
    obtain ⟨ps, e1, e2, e3, e4⟩ := shown_okL hb xs h
    refine ⟨.list ps, by simp only [toPy, e1, Option.map_some], by simpa only [PyData.showable] using e2, ?_, ?_⟩
    · simp only [PyData.shown, sl]
      have := listText_le (PyData.shownAll ps)
      omega
    · simp only [PyData.depth, dpt]; omega
  | .dct ks ds, h => by
    simp only [shw] at h
    obtain ⟨rfl, rfl⟩ := h
    exact ⟨.dict [], rfl, rfl, by decide, by decide⟩
  | .wdc _ _, h => by simp only [shw] at h
  | .ref _, h => by simp only [shw] at h
theorem shown_okL {b : Nat} (hb : b < 10 ^ 310) : ∀ (ds : List D), shwL b ds → ∃ ps, toPyL ds = some ps ∧ PyData.showableAll ps = true ∧ piled (PyData.shownAll ps) ≤ slL ds ∧ PyData.depthAll ps ≤ dptL ds
  | [], _ => ⟨[], rfl, rfl, Nat.le_refl _, Nat.le_refl _⟩
  | d :: ds, h => by
    simp only [shwL] at h
    obtain ⟨p, e1, e2, e3, e4⟩ := shown_ok hb d h.1
    obtain ⟨ps, f1, f2, f3, f4⟩ := shown_okL hb ds h.2
    refine ⟨p :: ps, by simp only [toPyL, e1, f1], by simp only [PyData.showableAll, e2, f2, Bool.and_self], ?_, ?_⟩
    · simp only [PyData.shownAll, slL]; rw [piled_cons]; omega
    · simp only [PyData.depthAll, dptL]; omega
end
/-- repr of such a thing -/
theorem repr_ok {b : Nat} {d : D} (hb : b < 10 ^ 310) (h : shw b d) (hs : sl d ≤ sizeLine) (hd : dpt d ≤ 190) : ∃ x, reprD d = some (.str x) := by
  obtain ⟨p, e1, e2, e3, e4⟩ := shown_ok hb d h
  refine ⟨p.shown, ?_⟩
  unfold reprD
  simp only [e1, e2, decide_eq_true (Nat.le_trans e3 hs), decide_eq_true (Nat.le_trans e4 hd), Bool.and_self, if_true]
/-! sums -/
theorem slL_append : ∀ (xs ys : List D), slL (xs ++ ys) = slL xs + slL ys
  | [], ys => by simp [slL]
  | x :: xs, ys => by simp only [List.cons_append, slL, slL_append xs ys]; omega
theorem dptL_append : ∀ (xs ys : List D), dptL (xs ++ ys) = max (dptL xs) (dptL ys)
  | [], ys => by simp [dptL]
  | x :: xs, ys => by simp only [List.cons_append, dptL, dptL_append xs ys]; omega
theorem shwL_append {b : Nat} : ∀ (xs ys : List D), shwL b (xs ++ ys) ↔ shwL b xs ∧ shwL b ys
  | [], ys => by simp [shwL]
  | x :: xs, ys => by simp only [List.cons_append, shwL, shwL_append xs ys, and_assoc]
theorem shwL_mem {b : Nat} : ∀ {xs : List D}, shwL b xs ↔ ∀ x ∈ xs, shw b x
  | [] => by simp [shwL]
  | x :: xs => by simp [shwL, shwL_mem (xs := xs)]
theorem sl_mem : ∀ {xs : List D} {x : D}, x ∈ xs → sl x + 2 ≤ slL xs
  | y :: xs, x, h => by
    simp only [slL]
    rcases List.mem_cons.mp h with rfl | h
    · omega
    · have := sl_mem h; omega
theorem dpt_mem : ∀ {xs : List D} {x : D}, x ∈ xs → dpt x ≤ dptL xs
  | y :: xs, x, h => by
    simp only [dptL]
    rcases List.mem_cons.mp h with rfl | h
    · omega
    · have := dpt_mem h; omega
theorem len_slL : ∀ (xs : List D), 2 * xs.length ≤ slL xs
  | [] => by simp [slL]
  | x :: xs => by have := len_slL xs; simp only [slL, List.length_cons]; omega
theorem size_0 : (0 : Nat) ≤ sizeLine := by decide
theorem size_1 : (1 : Nat) ≤ sizeLine := by decide
theorem size_2 : (2 : Nat) ≤ sizeLine := by decide
theorem size_3 : (3 : Nat) ≤ sizeLine := by decide
theorem size_4 : (4 : Nat) ≤ sizeLine := by decide
theorem size_5 : (5 : Nat) ≤ sizeLine := by decide
theorem size_8 : (8 : Nat) ≤ sizeLine := by decide
def B : Nat := 10 ^ 40
theorem bits10 : Builtin.Int.intBits 10 = 4 := by decide +kernel
theorem slL_le {l : Nat} : ∀ {xs : List D}, (∀ x ∈ xs, sl x ≤ l) → slL xs ≤ xs.length * (l + 2)
  | [], _ => by simp [slL]
  | x :: xs, h => by
    have h1 := h x List.mem_cons_self
    have h2 := slL_le fun y hy => h y (List.mem_cons_of_mem x hy)
    simp only [slL, List.length_cons, Nat.add_mul]
    omega
theorem dptL_le {l : Nat} : ∀ {xs : List D}, (∀ x ∈ xs, dpt x ≤ l) → dptL xs ≤ l
  | [], _ => by simp [dptL]
  | x :: xs, h => by
    have h1 := h x List.mem_cons_self
    have h2 := dptL_le fun y hy => h y (List.mem_cons_of_mem x hy)
    simp only [dptL]
    omega
end Pk05
end
section -- B05
set_option Elab.async false
set_option linter.all false
set_option maxRecDepth 100000
set_option maxHeartbeats 4000000
namespace Pk05
open PySem L2 Mp
mutual
def shwb (b : Nat) : D → Bool
  | .non => true
  | .bl _ => true
  | .int i => decide (i.natAbs ≤ b)
  | .str x => PyData.strOk x
  | .tup xs => shwbL b xs
  | .lst xs => shwbL b xs
  | .dct ks ds => ks.isEmpty && ds.isEmpty
  | .wdc _ _ => false
  | .ref _ => false
def shwbL (b : Nat) : List D → Bool
  | [] => true
  | x :: xs => shwb b x && shwbL b xs
end
mutual
theorem shwb_ok {b : Nat} : ∀ d : D, shwb b d = true → shw b d
  | .non, _ => by simp [shw]
  | .bl _, _ => by simp [shw]
  | .int i, h => by simpa [shw, shwb] using h
  | .str x, h => by simpa [shw, shwb] using h
  | .tup xs, h => by simp only [shw]; exact shwbL_ok xs (by simpa [shwb] using h)
  | .lst xs, h => by simp only [shw]; exact shwbL_ok xs (by simpa [shwb] using h)
  | .dct ks ds, h => by simpa [shw, shwb] using h
  | .wdc _ _, h => by simp [shwb] at h
  | .ref _, h => by simp [shwb] at h
theorem shwbL_ok {b : Nat} : ∀ ds : List D, shwbL b ds = true → shwL b ds
  | [], _ => by simp [shwL]
  | x :: xs, h => by
    simp only [shwbL, Bool.and_eq_true] at h
    exact ⟨shwb_ok x h.1, shwbL_ok xs h.2⟩
end
def oddB (d : D) : Bool := shwb B d && (decide (sl d ≤ 400) && decide (dpt d ≤ 3))
theorem oddB_ok {d : D} (h : oddB d = true) : shw B d ∧ sl d ≤ 400 ∧ dpt d ≤ 3 := by
  simp only [oddB, Bool.and_eq_true, decide_eq_true_eq] at h
  exact ⟨shwb_ok d h.1, by omega, h.2.2⟩
theorem odd {n w N : Nat} {m : Sto} (hw : Well m w N) (hN : N < 2 ^ 60) : wp (run F C (n + 3) 22 [.ref w]) m fun d m' => Go w 1 m m' ∧ shw B d ∧ sl d ≤ 400 ∧ dpt d ≤ 3 := by
  refine wp_run (g := f22) rfl rfl ?_
  simp [f22, b22, bits10, sizeLine_eq]
  have hp := fun xs h0 h1 => pick (n := n) (xs := xs) hw hN h0 h1
  refine wp_mono (hp _ ?_ ?_) ?_
  · simp
  · simp
  rintro d m1 ⟨g, hm⟩
  have key := fun h => List.all_eq_true (p := oddB).mp h d hm
  exact ⟨g, oddB_ok (key (by decide +kernel))⟩
theorem r_same {b n : Nat} {d : D} {m : Sto} (hb : b < 10 ^ 310) (h : shw b d) (hs : sl d ≤ sizeLine) (hd : dpt d ≤ 190) : run F C (n + 1) 21 [d, d] m = .ok (.bl true) m := by
  obtain ⟨x, e⟩ := repr_ok hb h hs hd
  refine wp_eq (wp_run (g := f21) rfl rfl ?_)
  simp [f21, b21, e, e_self]
theorem draw' {n w N : Nat} {k : Int} {m : Sto} (hn : 1 ≤ n) (hw : Well m w N) (hN : N < 2 ^ 60) (hk : 0 < k) (hk2 : k < 1073741824) :
    wp (run F C n 19 [.ref w, .int k]) m fun d m' => Go w 1 m m' ∧ ∃ r : Nat, d = .int r ∧ (r : Int) < k := by
  obtain ⟨n, rfl⟩ : ∃ a, n = a + 1 := ⟨n - 1, by omega⟩
  refine wp_mono (draw hw hN hk hk2) fun d m1 ⟨g, r, er, r0, r1⟩ => ?_
  obtain ⟨i, rfl⟩ := Int.eq_ofNat_of_zero_le r0
  exact ⟨g, i, er, r1⟩
theorem pick' {n w N : Nat} {xs : List D} {m : Sto} (hn : 2 ≤ n) (hw : Well m w N) (hN : N < 2 ^ 60) (h0 : xs ≠ []) (h1 : xs.length < 1073741824) :
    wp (run F C n 20 [.ref w, .tup xs] ) m fun d m' => Go w 1 m m' ∧ d ∈ xs := by
  obtain ⟨n, rfl⟩ : ∃ a, n = a + 2 := ⟨n - 2, by omega⟩
  exact pick hw hN h0 h1
theorem odd' {n w N : Nat} {m : Sto} (hn : 3 ≤ n) (hw : Well m w N) (hN : N < 2 ^ 60) : wp (run F C n 22 [.ref w]) m fun d m' => Go w 1 m m' ∧ shw B d ∧ sl d ≤ 400 ∧ dpt d ≤ 3 := by
  obtain ⟨n, rfl⟩ : ∃ a, n = a + 3 := ⟨n - 3, by omega⟩
  exact odd hw hN
mutual
theorem shw_le {b b' : Nat} (h : b ≤ b') : ∀ d : D, shw b d → shw b' d
  | .non, _ => by simp only [shw]
  | .bl _, _ => by simp only [shw]
  | .int i, q => by simp only [shw] at *; omega
  | .str x, q => by simpa only [shw] using q
  | .tup xs, q => by simp only [shw] at *; exact shwL_le h xs q
  | .lst xs, q => by simp only [shw] at *; exact shwL_le h xs q
  | .dct _ _, q => by simpa only [shw] using q
  | .wdc _ _, q => by simp only [shw] at q
  | .ref _, q => by simp only [shw] at q
theorem shwL_le {b b' : Nat} (h : b ≤ b') : ∀ ds : List D, shwL b ds → shwL b' ds
  | [], _ => by simp only [shwL]
  | x :: xs, q => by simp only [shwL] at *; exact ⟨shw_le h x q.1, shwL_le h xs q.2⟩
end
theorem sIx_n {n d i : Nat} : HT.sIx n d (some (i : Int)) = min i n := by
  unfold HT.sIx
  have h : ¬ ((i : Int) < 0) := by omega
  simp only [h, if_false]
  omega
theorem cut_to {xs : List D} {i : Nat} (h : i ≤ xs.length) : cutD xs none (some (i : Int)) = xs.take i := by
  unfold cutD
  rw [sIx_n]
  simp only [HT.sIx, Nat.min_eq_left h, List.drop_zero, Nat.sub_zero]
theorem cut_from {xs : List D} {i : Nat} (h : i ≤ xs.length) : cutD xs (some (i : Int)) none = xs.drop i := by
  unfold cutD
  rw [sIx_n]
  simp only [HT.sIx, Nat.min_eq_left h]
  exact List.take_of_length_le (by simp)
theorem cut_from1 {xs : List D} {i : Nat} (h : i < xs.length) : cutD xs (some ((i : Int) + 1)) none = xs.drop (i + 1) := cut_from (i := i + 1) h
theorem slL_cut {xs : List D} {i : Nat} (h : i < xs.length) : slL (xs.take i) + (sl xs[i] + 2 + slL (xs.drop (i + 1))) = slL xs := by
  conv => rhs; rw [← List.take_append_drop i xs, slL_append, List.drop_eq_getElem_cons h]
  simp only [slL]
theorem slL_cut0 {xs : List D} {i : Nat} : slL (xs.take i) + slL (xs.drop i) = slL xs := by
  conv => rhs; rw [← List.take_append_drop i xs, slL_append]
theorem same' {b n : Nat} {d : D} {m : Sto} (hn : 1 ≤ n) (hb : b < 10 ^ 310) (h : shw b d) (hs : sl d ≤ sizeLine) (hd : dpt d ≤ 190) : run F C n 21 [d, d] m = .ok (.bl true) m := by
  obtain ⟨n, rfl⟩ : ∃ a, n = a + 1 := ⟨n - 1, by omega⟩
  exact r_same hb h hs hd
/-- a loop over a list that stays as it is; its turns leave the store -/
theorem wp_forS {body : D → Mp.Env → M Fl} {Q : Fl → Sto → Prop} {w : Wk} {r : Mp.Env} {m : Sto} {xs : List D} (P : List D → Mp.Env → Prop) (hw : w = .its xs ∨ ∃ n, w = .live n ∧ m[n]? = some (.lst xs)) (h : P xs r) (hs : ∀ x rest r, P (x :: rest) r → wp (body x r) m (loopQ Q fun r' m' => m' = m ∧ P rest r')) (he : ∀ r, P [] r → Q (.nx r) m) : wp (forW body w r) m Q := by
  rcases hw with rfl | ⟨n, rfl, hm⟩
  · rw [forW_its]
    refine wp_forL (fun rest r m' => m' = m ∧ P rest r) _ _ _ ⟨rfl, h⟩ ?_ ?_
    · rintro x rest r m' ⟨rfl, q⟩; exact hs x rest r q
    · rintro r m' ⟨rfl, q⟩; exact he r q
  · have e : forW body (.live n) r m = forR body n (xs.length + 1) 0 r m := by
      unfold forW
      simp only [hm]
    suffices hq : wp (forR body n (xs.length + 1) 0 r) m Q by
      obtain ⟨a, m', e1, q⟩ := hq
      exact ⟨a, m', e.trans e1, q⟩
    refine wp_forR (xs := xs) (fun rest r m' => m' = m ∧ P rest r) ?_ ?_ ?_ (xs.length + 1) 0 _ _ (Nat.zero_le _) (Nat.lt_succ_self _) ⟨rfl, h⟩
    · rintro rest r m' ⟨rfl, _⟩; exact hm
    · rintro x rest r m' ⟨rfl, q⟩; exact hs x rest r q
    · rintro r m' ⟨rfl, q⟩; exact he r q
theorem ne_self {x : Str} : ((eqG (.str x) (.str x)).or (eqS (.str x) (.str x))).map (!·) = some false := by
  have := e_self (x := x)
  simp only [eqD] at this
  rw [this]; rfl
end Pk05
end
section -- C05
set_option Elab.async false
set_option linter.all false
set_option maxRecDepth 100000
set_option maxHeartbeats 4000000
namespace Pk05
open PySem L2 Mp
theorem million' : (1000000 : Nat) ≤ sizeLine := by decide
theorem rng_mem (n : Nat) : ∀ x ∈ rngD 0 n, ∃ i : Nat, x = .int i := fun x h => by
  simp only [rngD, List.mem_map] at h
  obtain ⟨i, _, rfl⟩ := h
  exact ⟨i, by simp⟩
theorem rng_len (n : Nat) : (rngD 0 n).length = n := by simp [rngD]
theorem at_last {xs : List D} (h : 0 < xs.length) : ∃ z, z ∈ xs ∧ atI xs (-1) = some z := by
  have e : ixN xs.length (-1) = some (xs.length - 1) := by
    unfold ixN
    simp
    omega
  refine ⟨xs[xs.length - 1], List.getElem_mem _, ?_⟩
  simp [atI, e]
theorem mem_ints {ns : List Int} {x : D} (h : x ∈ ns.map D.int) : ∃ i : Int, x = .int i := by
  obtain ⟨i, _, rfl⟩ := List.mem_map.mp h
  exact ⟨i, rfl⟩
theorem well {n : Nat} {m : Sto} (ns : List Int) (t : Int) (h0 : 0 ≤ t) : wp (run F C (n + 1) 18 [.lst (ns.map .int), .int t]) m fun d m' => ∃ w, d = .ref w ∧ Well m' w 0 := by
  refine wp_run (g := f18) rfl rfl ?_
  have s4 : (4 : Nat) ≤ sizeLine := by decide
  have mo1 : ∀ j, mulOk 7717 j = true := fun j => mulOk_l (by decide) (by decide)
  have mo2 : ∀ j, mulOk j 48611 = true := fun j => mulOk_r (by decide) (by decide)
  have mo3 : ∀ j, mulOk j 37 = true := fun j => mulOk_r (by decide) (by decide)
  have mo4 : ∀ j, mulOk j 30011 = true := fun j => mulOk_r (by decide) (by decide)
  simp [f18, b18, mo1, sliD, -thenS_nx]
  rw [thenS_nx]
  simp [mo2, sliD, -thenS_nx]
  refine wp_mono (Q := fun f m' => m' = m ∧ ∃ (x : Int) (e3 : Option D), f = .nx [some (.lst (ns.map .int)), some (.int t), some (.int x), e3, none] ∧ 0 ≤ x)
    (wp_forL (fun rest r m' => m' = m ∧ (∀ y ∈ rest, ∃ i : Int, y = .int i) ∧ ∃ (x : Int) (e3 : Option D), r = [some (.lst (ns.map .int)), some (.int t), some (.int x), e3, none] ∧ 0 ≤ x) _ _ _ ⟨rfl, ?_, _, _, rfl, by omega⟩ ?_ ?_) ?_
  · intro y hy
    unfold cutD at hy
    exact mem_ints (List.mem_of_mem_drop (List.mem_of_mem_take hy))
  · rintro y rest r m' ⟨rfl, hy, x, e3, rfl, hx⟩
    obtain ⟨i, rfl⟩ := hy y List.mem_cons_self
    simp [mo2, loopQ]
    exact ⟨fun z hz => hy z (List.mem_cons_of_mem _ hz), Int.emod_nonneg _ (by decide)⟩
  · rintro r m' ⟨rfl, hy, x, e3, rfl, hx⟩
    exact ⟨rfl, x, e3, rfl, hx⟩
  rintro f m' ⟨rfl, x, e3, rfl, hx⟩
  rw [thenS_nx]
  have fin : ∀ own : Int, wp (exs (run F C n) C (.c (.asg (.nm 2) (.bin .Mod (.blt .int (.c (.bin .Add (.bin .Add (.bin .Mult (.loc 2) (.cst (.int 37))) (.bin .Mult (.bin .Mod (.blt .int (.c (.loc 4) .n)) (.cst (.int 2147483629))) (.cst (.int 30011)))) (.cst (.int 11))) .n)) (.cst (.int 2147483587)))) (.c (.ret (.lsm (.c (.ite (.or (.c (.cmp .Lt (.loc 4) (.cst (.int 0))) (.c (.cmp .GtE (.loc 4) (.bin .Pow (.cst (.int 10)) (.cst (.int 14)))) .n))) (.blt .abs (.c (.loc 4) .n)) (.cst (.int 0))) (.c (.loc 2) (.c (.cst (.int 0)) (.c (.cst (.int 2)) .n)))))) .n)) [some (.lst (ns.map .int)), some (.int t), some (.int x), e3, some (.int own)]) m' (endD fun d m' => ∃ w, d = .ref w ∧ Well m' w 0) := fun own => by
    have cell : ∀ a x : Int, 0 ≤ a → 0 ≤ x → Well (m' ++ [.lst [.int a, .int x, .int 0, .int 2]]) m'.length 0 := fun a x ha hx => ⟨a, x, 0, 2, by simp, ha, hx, by decide, by decide, by decide⟩
    have hm : ∀ z : Int, 0 ≤ z % 2147483587 := fun z => Int.emod_nonneg _ (by decide)
    by_cases h1 : own < 0
    · have q : (0 : Int) ≤ -own := by omega
      simp [mo3, mo4, bits10, h1, s4]
      exact cell _ _ q (hm _)
    · by_cases h2 : 100000000000000 ≤ own
      · simp [mo3, mo4, bits10, h1, h2, s4]
        exact cell _ _ (by omega) (hm _)
      · simp [mo3, mo4, bits10, h1, h2, s4]
        exact cell _ _ (by omega) (hm _)
  by_cases ht : t < ns.length
  · obtain ⟨d, ed, hd⟩ := atI_mem (xs := ns.map D.int) h0 (by simpa using ht)
    obtain ⟨i, rfl⟩ := mem_ints hd
    simp [ht, ed, -thenS_nx]
    rw [thenS_nx]
    exact fin i
  · simp [ht, -thenS_nx]
    rw [thenS_nx]
    exact fin 0
end Pk05
end
section -- D05
set_option Elab.async false
set_option linter.all false
set_option maxRecDepth 100000
set_option maxHeartbeats 4000000
namespace Pk05
open PySem L2 Mp
inductive Vw where
  | a | b | c
  deriving DecidableEq
inductive Bw where
  | pair | either | fn
  deriving DecidableEq
inductive Kg where
  | unit | num | var (v : Vw) | bin (w : Bw) (a b : Kg) | list (a : Kg)
  deriving DecidableEq
def Vw.s : Vw → Str
  | .a => "a"
  | .b => "b"
  | .c => "c"
def Bw.s : Bw → Str
  | .pair => "pair"
  | .either => "either"
  | .fn => "fun"
def Kg.d : Kg → D
  | .unit => .tup [.str "unit"]
  | .num => .tup [.str "num"]
  | .var v => .tup [.str "var", .str v.s]
  | .bin w a b => .tup [.str w.s, a.d, b.d]
  | .list a => .tup [.str "list", a.d]
def Kg.dp : Kg → Nat
  | .bin _ a b => max a.dp b.dp + 1
  | .list a => a.dp + 1
  | _ => 1
def vOf (s : Str) : Option Vw := if s = "a" then some .a else if s = "b" then some .b else if s = "c" then some .c else none
def bOf (s : Str) : Option Bw := if s = "pair" then some .pair else if s = "either" then some .either else if s = "fun" then some .fn else none
def prs : D → Option Kg
  | .tup [.str s] => if s = "unit" then some .unit else if s = "num" then some .num else none
  | .tup [.str s, x] => if s = "list" then (prs x).map .list else if s = "var" then (match x with
    | .str v => (vOf v).map .var
    | _ => none) else none
  | .tup [.str s, x, y] => (match bOf s, prs x, prs y with
    | some w, some a, some b => some (.bin w a b)
    | _, _, _ => none)
  | _ => none
theorem vOf_s (v : Vw) : vOf v.s = some v := by cases v <;> decide +kernel
theorem bOf_s (v : Bw) : bOf v.s = some v := by cases v <;> decide +kernel
theorem vOf_inv {s : Str} {v : Vw} (h : vOf s = some v) : s = v.s := by
  unfold vOf at h
  split at h
  · cases h; assumption
  · split at h
    · cases h; assumption
    · split at h
      · cases h; assumption
      · cases h
theorem bOf_inv {s : Str} {v : Bw} (h : bOf s = some v) : s = v.s := by
  unfold bOf at h
  split at h
  · cases h; assumption
  · split at h
    · cases h; assumption
    · split at h
      · cases h; assumption
      · cases h
theorem prs_d : ∀ k : Kg, prs k.d = some k
  | .unit => by simp [Kg.d, prs]
  | .num => by simp [Kg.d, prs]
  | .var v => by simp [Kg.d, prs, vOf_s]
  | .bin w a b => by simp [Kg.d, prs, bOf_s, prs_d a, prs_d b]
  | .list a => by simp [Kg.d, prs, prs_d a]
theorem prs_inv : ∀ (n : Nat) {d : D} {k : Kg}, dpt d ≤ n → prs d = some k → d = k.d
  | n, .non, k, _, h => by simp [prs] at h
  | n, .bl _, k, _, h => by simp [prs] at h
  | n, .int _, k, _, h => by simp [prs] at h
  | n, .str _, k, _, h => by simp [prs] at h
  | n, .lst _, k, _, h => by simp [prs] at h
  | n, .dct _ _, k, _, h => by simp [prs] at h
  | n, .wdc _ _, k, _, h => by simp [prs] at h
  | n, .ref _, k, _, h => by simp [prs] at h
  | 0, .tup xs, k, hd, h => by simp [dpt] at hd
  | n + 1, .tup xs, k, hd, h => by
    match xs, hd, h with
    | [], _, h => simp [prs] at h
    | [x], _, h =>
      cases x with
      | str s =>
        simp only [prs] at h
        split at h
        · cases h; subst s; rfl
        · split at h
          · cases h; subst s; rfl
          · cases h
      | _ => simp [prs] at h
    | [x, y], hd, h =>
      simp only [dpt, dptL] at hd
      cases x with
      | str s =>
        simp only [prs] at h
        split at h
        · subst s
          obtain ⟨a, e, rfl⟩ := Option.map_eq_some_iff.mp h
          rw [prs_inv n (by omega) e]; rfl
        · split at h
          · subst s
            cases y with
            | str v =>
              obtain ⟨a, e, rfl⟩ := Option.map_eq_some_iff.mp h
              rw [vOf_inv e]; rfl
            | _ => cases h
          · cases h
      | _ => simp [prs] at h
    | [x, y, z], hd, h =>
      simp only [dpt, dptL] at hd
      cases x with
      | str s =>
        simp only [prs] at h
        split at h
        · rename_i w a b e1 e2 e3
          cases h
          rw [bOf_inv e1, prs_inv n (by omega) e2, prs_inv n (by omega) e3]; rfl
        · cases h
      | _ => simp [prs] at h
    | x :: y :: z :: u :: r, _, h =>
      cases x <;> simp [prs] at h
theorem dpt_d : ∀ k : Kg, dpt k.d = k.dp
  | .unit => rfl
  | .num => rfl
  | .var _ => rfl
  | .bin w a b => by simp only [Kg.d, dpt, dptL, dpt_d a, dpt_d b, Kg.dp]; omega
  | .list a => by simp only [Kg.d, dpt, dptL, dpt_d a, Kg.dp]; omega
theorem dp_pos : ∀ k : Kg, 1 ≤ k.dp := fun k => by cases k <;> simp [Kg.dp]
def Kg.data : Kg → Bool
  | .bin w a b => w != .fn && (a.data && b.data)
  | .list a => a.data
  | _ => true
def Kg.closed : Kg → Bool
  | .var _ => false
  | .bin _ a b => a.closed && b.closed
  | .list a => a.closed
  | _ => true
end Pk05
end
section -- E05
set_option Elab.async false
set_option linter.all false
set_option maxRecDepth 100000
set_option maxHeartbeats 4000000
namespace Pk05
open PySem L2 Mp
theorem shw_nr {b : Nat} {d : D} (h : shw b d) : ∀ k, d ≠ .ref k := by rintro k rfl; simp [shw] at h
theorem shw_isi {b : Nat} {d : D} {m : Sto} (h : shw b d) (ht : ∀ xs, d ≠ .tup xs) : isiD m d .tup = false := by
  cases d <;> first | rfl | exact absurd rfl (ht _) | simp [shw] at h
theorem shw_iss {b : Nat} {d : D} {m : Sto} (h : shw b d) (ht : ∀ xs, d ≠ .str xs) : isiD m d .str = false := by
  cases d <;> first | rfl | exact absurd rfl (ht _) | simp [shw] at h
theorem isi_tt {m : Sto} {xs : List D} : isiD m (.tup xs) .tup = true := rfl
theorem isi_ss {m : Sto} {x : Str} : isiD m (.str x) .str = true := rfl
theorem w_eq (w s : Str) : (w == s) = decide (s = w) := by
  rw [Bool.eq_iff_iff, beq_iff_eq, decide_eq_true_iff]
  exact ⟨Eq.symm, Eq.symm⟩
theorem in_abc {m : Sto} {s : Str} (ok : PyData.strOk s = true) : inD m (.str s) (.tup [.str "a", .str "b", .str "c"]) = some (vOf s).isSome := by
  have h1 := g_str (x := "a") (y := s) (by decide +kernel) ok
  have h2 := g_str (x := "b") (y := s) (by decide +kernel) ok
  have h3 := g_str (x := "c") (y := s) (by decide +kernel) ok
  simp only [inD, items, Option.bind_some, inL, h1, h2, h3, Bool.or_false, w_eq]
  unfold vOf
  by_cases a : s = "a"
  · simp [a]
  · by_cases b : s = "b"
    · simp [b]
    · by_cases c : s = "c"
      · simp [c]
      · simp [a, b, c]
def isVr : D → Bool
  | .str s => (vOf s).isSome
  | _ => false
theorem r_variable {b : Nat} (n : Nat) (d : D) (m : Sto) (h : shw b d) : run F C (n + 1) 1 [d] m = .ok (.bl (isVr d)) m := by
  refine wp_eq (wp_run (g := f1) rfl rfl ?_)
  have c0 : C[0]? = some (.tup [.str "a", .str "b", .str "c"]) := rfl
  by_cases hs : ∃ s, d = .str s
  · obtain ⟨s, rfl⟩ := hs
    simp only [shw] at h
    simp [f1, b1, isi_ss, c0, in_abc h, isVr]
    cases vOf s <;> simp
  · have hn : ∀ s, d ≠ .str s := fun s e => hs ⟨s, e⟩
    have : isVr d = false := by cases d <;> first | rfl | exact absurd rfl (hn _)
    simp [f1, b1, shw_iss h hn, this]
def kd (n : Nat) (d : D) : Bool := match prs d with
  | some k => decide (k.dp ≤ n)
  | none => false
theorem kd_0 (d : D) : kd 0 d = false := by
  unfold kd
  split
  · rename_i k _
    have := dp_pos k
    simp; omega
  · rfl
theorem kd_some {d : D} {k : Kg} (h : prs d = some k) (n : Nat) : kd n d = decide (k.dp ≤ n) := by simp only [kd, h]
theorem kd_none {d : D} (h : prs d = none) (n : Nat) : kd n d = false := by simp only [kd, h]
theorem kd_bin (n : Nat) (w : Bw) (y z : D) : kd (n + 1) (.tup [.str w.s, y, z]) = (kd n y && kd n z) := by
  cases hy : prs y with
  | none => rw [kd_none hy, kd_none (by simp [prs, hy])]; rfl
  | some a =>
    cases hz : prs z with
    | none => rw [kd_none hz, kd_none (by simp [prs, hz]), Bool.and_false]
    | some b =>
      rw [kd_some hy, kd_some hz, kd_some (k := .bin w a b) (by simp [prs, hy, hz, bOf_s])]
      rw [← Bool.decide_and]
      congr 1
      simp only [Kg.dp, eq_iff_iff]
      omega
theorem kd_list (n : Nat) (y : D) : kd (n + 1) (.tup [.str "list", y]) = kd n y := by
  cases hy : prs y with
  | none => rw [kd_none hy, kd_none (by simp [prs, hy])]
  | some a =>
    rw [kd_some hy, kd_some (k := .list a) (by simp [prs, hy])]
    congr 1
    simp [Kg.dp]
theorem kd_var (n : Nat) (y : D) : kd (n + 1) (.tup [.str "var", y]) = isVr y := by
  cases y with
  | str s =>
    cases hv : vOf s with
    | none => rw [kd_none (by simp [prs, hv])]; simp [isVr, hv]
    | some v => rw [kd_some (k := .var v) (by simp [prs, hv])]; simp [isVr, hv, Kg.dp]
  | _ => rw [kd_none (by simp [prs])]; rfl
theorem bOf_no {s : Str} (h : bOf s = none) : s ≠ "pair" ∧ s ≠ "either" ∧ s ≠ "fun" := by
  unfold bOf at h
  refine ⟨fun e => ?_, fun e => ?_, fun e => ?_⟩ <;> subst e <;> simp at h
theorem r_kinded {b : Nat} : ∀ (n : Nat) (lv : Nat) (m : Sto) (d : D), n ≤ lv → shw b d → sl d ≤ sizeLine → run F C (lv + 2) 2 [d, .int n] m = .ok (.bl (kd n d)) m
  | 0, lv, m, d, hl, hs, hz => by
    refine wp_eq (wp_run (g := f2) rfl rfl ?_)
    simp [f2, b2, kd_0]
  | n + 1, 0, m, d, hl, hs, hz => by omega
  | n + 1, lv + 1, m, d, hl, hs, hz => by
    have zero := size_0
    have one := size_1
    have two := size_2
    have three := size_3
    have hz0 : ((n : Int) + 1 == 0) = false := by simp; omega
    have c1 : C[1]? = some (.wdc [.inr "unit", .inr "num", .inr "pair", .inr "either", .inr "list", .inr "fun"] [(.int 1), (.int 1), (.int 3), (.int 3), (.int 2), (.int 3)]) := rfl
    refine wp_eq (wp_run (g := f2) rfl rfl ?_)
    by_cases ht : ∃ xs, d = .tup xs
    · obtain ⟨xs, rfl⟩ := ht
      cases xs with
      | nil => simp [f2, b2, hz0, isi_tt, zero, kd, prs]
      | cons x r =>
        have hs1 := hs
        simp only [shw, shwL] at hs
        by_cases hx : ∃ s, x = .str s
        · obtain ⟨s, rfl⟩ := hx
          have ok : PyData.strOk s = true := by simpa [shw] using hs.1
          have gv := g_str (x := s) (y := "var") ok (by decide +kernel)
          have ev := e_str (x := s) (y := "var") ok (by decide +kernel)
          by_cases h1 : s = "var"
          · subst h1
            match r, hs with
            | [], hs => simp [f2, b2, hz0, isi_tt, isi_ss, zero, kd, prs]
            | [y], hs =>
              simp only [shwL] at hs
              simp [f2, b2, hz0, isi_tt, isi_ss, zero, eq_wp (r_variable _ y _ hs.2.1), kd_var]
            | y :: z :: r, hs =>
              have : kd (n + 1) (.tup (.str "var" :: y :: z :: r)) = false := kd_none (by cases r <;> simp [prs, bOf]) _
              simp [f2, b2, hz0, isi_tt, isi_ss, zero, this]
              omega
          · have g2 : (s == ("var" : Str)) = false := by simpa using h1
            by_cases hu : s = "unit"
            · subst hu
              match r, hs with
              | [], hs => simp [f2, b2, hz0, isi_tt, isi_ss, zero, c1, recOk, metD, dKey, getK, key_eq, blsOf, sliD, cutD, HT.sIx, kd, prs, Kg.dp]
              | y :: r, hs =>
                have : kd (n + 1) (.tup (.str "unit" :: y :: r)) = false := kd_none (by match r with
                  | [] => simp [prs]
                  | [z] => simp [prs, bOf]
                  | z :: u :: r => simp [prs]) _
                simp [f2, b2, hz0, isi_tt, isi_ss, zero, c1, recOk, metD, dKey, getK, key_eq, this]
                omega
            · by_cases hnu : s = "num"
              · subst hnu
                match r, hs with
                | [], hs => simp [f2, b2, hz0, isi_tt, isi_ss, zero, c1, recOk, metD, dKey, getK, key_eq, blsOf, sliD, cutD, HT.sIx, kd, prs, Kg.dp]
                | y :: r, hs =>
                  have : kd (n + 1) (.tup (.str "num" :: y :: r)) = false := kd_none (by match r with
                    | [] => simp [prs]
                    | [z] => simp [prs, bOf]
                    | z :: u :: r => simp [prs]) _
                  simp [f2, b2, hz0, isi_tt, isi_ss, zero, c1, recOk, metD, dKey, getK, key_eq, this]
                  omega
              · by_cases hli : s = "list"
                · subst hli
                  match r, hs, hz with
                  | [], hs, hz => simp [f2, b2, hz0, isi_tt, isi_ss, zero, c1, recOk, metD, dKey, getK, key_eq, kd, prs]
                  | [y], hs, hz =>
                    simp only [shwL] at hs
                    have ih := fun m => r_kinded n lv m y (by omega) hs.2.1 (by simp only [sl, slL] at hz; omega)
                    simp [f2, b2, hz0, isi_tt, isi_ss, zero, one, c1, recOk, metD, dKey, getK, key_eq, blsOf, sliD, cutD, HT.sIx, eq_wp (ih _), Tg.slots, wipeD, kd_list]
                  | y :: z :: r, hs, hz =>
                    have : kd (n + 1) (.tup (.str "list" :: y :: z :: r)) = false := kd_none (by cases r <;> simp [prs, bOf]) _
                    simp [f2, b2, hz0, isi_tt, isi_ss, zero, c1, recOk, metD, dKey, getK, key_eq, this]
                    omega
                · cases hb : bOf s with
                  | none =>
                    obtain ⟨n1, n2, n3⟩ := bOf_no hb
                    have : kd (n + 1) (.tup (.str s :: r)) = false := kd_none (by match r with
                      | [] => simp [prs, hu, hnu]
                      | [y] => simp [prs, hli, h1]
                      | [y, z] => simp [prs, hb]
                      | y :: z :: u :: r => simp [prs]) _
                    have ne : ∀ w : Str, s ≠ w → (w = s) = False := fun w h => eq_false fun e => h e.symm
                    simp [f2, b2, hz0, isi_tt, isi_ss, zero, c1, recOk, metD, dKey, getK, key_eq, this, gv, ev, g2, h1, ne _ hu, ne _ hnu, ne _ hli, ne _ n1, ne _ n2, ne _ n3]
                    omega
                  | some w =>
                    have es := bOf_inv hb
                    match r, hs, hz with
                    | [], hs, hz =>
                      have : kd (n + 1) (.tup [.str s]) = false := kd_none (by simp [prs, hu, hnu]) _
                      cases w <;> subst es <;> simp [Bw.s, f2, b2, hz0, isi_tt, isi_ss, zero, c1, recOk, metD, dKey, getK, key_eq] <;> exact this
                    | [y], hs, hz =>
                      have : kd (n + 1) (.tup [.str s, y]) = false := kd_none (by simp [prs, hli, h1]) _
                      cases w <;> subst es <;> simp [Bw.s, f2, b2, hz0, isi_tt, isi_ss, zero, c1, recOk, metD, dKey, getK, key_eq] <;> exact this
                    | [y, z], hs, hz =>
                      simp only [shwL] at hs
                      have ih1 := fun m => r_kinded n lv m y (by omega) hs.2.1 (by simp only [sl, slL] at hz; omega)
                      have ih2 := fun m => r_kinded n lv m z (by omega) hs.2.2.1 (by simp only [sl, slL] at hz; omega)
                      have kb := kd_bin n w y z
                      rw [← es] at kb
                      rw [kb]
                      cases w <;> subst es <;> simp [Bw.s, f2, b2, hz0, isi_tt, isi_ss, zero, two, c1, recOk, metD, dKey, getK, key_eq, blsOf, sliD, cutD, HT.sIx, eq_wp (ih1 _), eq_wp (ih2 _), Tg.slots, wipeD]
                    | y :: z :: u :: r, hs, hz =>
                      have : kd (n + 1) (.tup (.str s :: y :: z :: u :: r)) = false := kd_none (by simp [prs]) _
                      cases w <;> subst es <;> simp [Bw.s, f2, b2, hz0, isi_tt, isi_ss, zero, c1, recOk, metD, dKey, getK, key_eq] <;> exact .inr ⟨by omega, this⟩
        · have hn : ∀ s, x ≠ .str s := fun s e => hx ⟨s, e⟩
          have : kd (n + 1) (.tup (x :: r)) = false := kd_none (by
            cases x <;> first | exact absurd rfl (hn _) | (match r with
              | [] => simp [prs]
              | [y] => simp [prs]
              | [y, z] => simp [prs]
              | y :: z :: u :: r => simp [prs])) _
          simp [f2, b2, hz0, isi_tt, shw_iss hs.1 hn, zero, this]
    · have hn : ∀ xs, d ≠ .tup xs := fun xs e => ht ⟨xs, e⟩
      have : kd (n + 1) d = false := kd_none (by cases d <;> first | exact absurd rfl (hn _) | simp [prs]) _
      simp [f2, b2, hz0, shw_isi hs hn, this]
end Pk05
end
section -- F05
set_option Elab.async false
set_option linter.all false
set_option maxRecDepth 100000
set_option maxHeartbeats 4000000
namespace Pk05
open PySem L2 Mp
def wk (which : Int) (k : Kg) : Prop := which = 2 → k.data = true ∧ k.closed = true
theorem v_mem {d : D} (h : d ∈ [D.str "a", .str "b", .str "c"]) : ∃ v : Vw, d = .str v.s := by
  simp only [List.mem_cons, List.not_mem_nil, or_false] at h
  rcases h with rfl | rfl | rfl
  · exact ⟨.a, rfl⟩
  · exact ⟨.b, rfl⟩
  · exact ⟨.c, rfl⟩
theorem kind : ∀ (dp : Nat) {n w N : Nat} {m : Sto} {which : Int}, 1 ≤ dp → dp ≤ 6 → (which = 0 ∨ which = 1 ∨ which = 2 ∨ which = 3) → Well m w N → N + 3 ^ dp ≤ 2 ^ 60 →
    wp (run F C (n + dp + 2) 24 [.ref w, .int dp, .int which]) m fun d m' => Go w (3 ^ dp) m m' ∧ ∃ k : Kg, d = k.d ∧ k.dp ≤ dp ∧ wk which k
  | 0, n, w, N, m, which, h1, h2, hh, hw, hN => by omega
  | dp + 1, n, w, N, m, which, h1, h2, hh, hw, hN => by
    have e2 : 3 ^ (dp + 1) = 3 * 3 ^ dp := by rw [Nat.pow_succ]; omega
    have p1 : 1 ≤ 3 ^ dp := Nat.pow_pos (by decide)
    refine wp_run (g := f24) rfl rfl ?_
    have three : (3 : Nat) ≤ sizeLine := size_3
    have two : (2 : Nat) ≤ sizeLine := size_2
    have one : (1 : Nat) ≤ sizeLine := size_1
    have eight : (8 : Nat) ≤ sizeLine := size_8
    obtain ⟨c, hc, hc2⟩ : ∃ c, (∀ m, inD m (.int which) (.tup [.int 1, .int 2]) = some c) ∧ (which = 2 → c = true) := by
      rcases hh with rfl | rfl | rfl | rfl
      · exact ⟨false, fun m => by simp [inD, items, inL], by decide⟩
      · exact ⟨true, fun m => by simp [inD, items, inL], by decide⟩
      · exact ⟨true, fun m => by simp [inD, items, inL], by decide⟩
      · exact ⟨false, fun m => by simp [inD, items, inL], by decide⟩
    have nm : ∀ {m2 : Sto} {c : Nat}, c ≤ 3 → Go w c m m2 → Go w (3 ^ (dp + 1)) m m2 ∧ ∃ k : Kg, D.tup [D.str "num"] = k.d ∧ k.dp ≤ dp + 1 ∧ wk which k := fun hc g => ⟨g.mono (by omega), .num, rfl, by simp [Kg.dp], fun _ => ⟨rfl, rfl⟩⟩
    have un : ∀ {m2 : Sto} {c : Nat}, c ≤ 3 → Go w c m m2 → Go w (3 ^ (dp + 1)) m m2 ∧ ∃ k : Kg, D.tup [D.str "unit"] = k.d ∧ k.dp ≤ dp + 1 ∧ wk which k := fun hc g => ⟨g.mono (by omega), .unit, rfl, by simp [Kg.dp], fun _ => ⟨rfl, rfl⟩⟩
    have vr : ∀ {m1 : Sto}, which < 2 → Go w 1 m m1 → wp (run F C (n + (dp + 1) + 1) 20 [.ref w, .tup [.str "a", .str "b", .str "c"]]) m1 fun d m2 => Go w (3 ^ (dp + 1)) m m2 ∧ ∃ k : Kg, D.tup [D.str "var", d] = k.d ∧ k.dp ≤ dp + 1 ∧ wk which k := fun {m1} hwh g1 =>
      wp_mono (pick' (by omega) (g1.well _ hw) (by omega) (by simp) (by simp)) fun d m2 ⟨g2, hm⟩ => by
        obtain ⟨v, rfl⟩ := v_mem hm
        exact ⟨(g1.trans g2).mono (by omega), .var v, rfl, by simp [Kg.dp], fun e => by omega⟩
    have leaf : ∀ (r : Nat) (m1 : Sto), r < 4 → Go w 1 m m1 → (r < 2 ∧ which < 2) ∨ (¬ (r < 2 ∧ which < 2) ∧ (r = 3 ∨ r ≠ 3)) := fun r m1 hr g1 => by omega
    by_cases hd : 1 < dp + 1
    · have hd1 : (1 : Int) < (dp : Int) + 1 := by omega
      have hd2 : ¬ ((dp : Int) + 1 ≤ 1) := by omega
      have ih := fun {n N : Nat} {m : Sto} => kind dp (n := n) (w := w) (N := N) (m := m) (which := which) (by omega) (by omega) hh
      simp [f24, b24, hd1, hd2, -thenS_nx]
      refine wp_mono (draw' (n := n + (dp + 1) + 1) (by omega) hw (by omega) (by decide) (by decide)) fun d m1 ⟨g1, r, er, r1⟩ => ?_
      subst er
      have hw1 := g1.well _ hw
      have rs : r = 0 ∨ r = 1 ∨ r = 2 ∨ r = 3 ∨ r = 4 ∨ r = 5 ∨ r = 6 ∨ r = 7 ∨ r = 8 ∨ r = 9 ∨ r = 10 ∨ r = 11 := by omega
      have c1 : N + 1 + 3 ^ dp ≤ 2 ^ 60 := by omega
      have c2 : N + 1 + 3 ^ dp + 3 ^ dp ≤ 2 ^ 60 := by omega
      have rn : n + (dp + 1) + 1 = n + dp + 2 := by omega
      have ls : ∀ {Q : D → Sto → Prop}, (∀ k m2, Go w (3 ^ (dp + 1)) m m2 → k.dp ≤ dp + 1 → wk which k → Q k.d m2) → True := fun _ => trivial
      rcases rs with rfl | rfl | rfl | rfl | rfl | rfl | rfl | rfl | rfl | rfl | rfl | rfl
      · by_cases hwh : which < 2
        · simp [one, two, three, hwh]; exact vr hwh g1
        · simp [one, two, three, hwh]; exact nm (by omega) g1
      · by_cases hwh : which < 2
        · simp [one, two, three, hwh]; exact vr hwh g1
        · simp [one, two, three, hwh]; exact nm (by omega) g1
      · simp [one, two, three]; exact nm (by omega) g1
      · simp [one, two, three]; exact un (by omega) g1
      · simp [one, two, three, eight, rn]
        refine wp_mono (ih hw1 c1) fun d m2 ⟨g2, k, ek, dk, wk2⟩ => ?_
        subst ek
        exact ⟨(g1.trans g2).mono (by omega), .list k, rfl, by simp [Kg.dp]; omega, fun e => wk2 e⟩
      · simp [one, two, three, eight, rn]
        refine wp_mono (ih hw1 c1) fun d m2 ⟨g2, k, ek, dk, wk2⟩ => ?_
        subst ek
        exact ⟨(g1.trans g2).mono (by omega), .list k, rfl, by simp [Kg.dp]; omega, fun e => wk2 e⟩
      iterate 2
        · simp [one, two, three, eight, rn]
          refine wp_mono (ih hw1 c1) fun d m2 ⟨g2, k, ek, dk, wk2⟩ => ?_
          refine wp_mono (ih (g2.well _ hw1) c2) fun d' m3 ⟨g3, k', ek', dk', wk3⟩ => ?_
          subst ek ek'
          exact ⟨((g1.trans g2).trans g3).mono (by omega), .bin .pair k k', rfl, by simp [Kg.dp]; omega, fun e => ⟨by simp [Kg.data, (wk2 e).1, (wk3 e).1], by simp [Kg.closed, (wk2 e).2, (wk3 e).2]⟩⟩
      iterate 2
        · simp [one, two, three, eight, rn]
          refine wp_mono (ih hw1 c1) fun d m2 ⟨g2, k, ek, dk, wk2⟩ => ?_
          refine wp_mono (ih (g2.well _ hw1) c2) fun d' m3 ⟨g3, k', ek', dk', wk3⟩ => ?_
          subst ek ek'
          exact ⟨((g1.trans g2).trans g3).mono (by omega), .bin .either k k', rfl, by simp [Kg.dp]; omega, fun e => ⟨by simp [Kg.data, (wk2 e).1, (wk3 e).1], by simp [Kg.closed, (wk2 e).2, (wk3 e).2]⟩⟩
      iterate 2
        · simp [one, two, three, eight, rn, hc]
          refine wp_mono (ih hw1 c1) fun d m2 ⟨g2, k, ek, dk, wk2⟩ => ?_
          subst ek
          cases c with
          | true =>
            simp [one, two, three, eight, rn, hc]
            refine wp_mono (ih (g2.well _ hw1) c2) fun d' m3 ⟨g3, k', ek', dk', wk3⟩ => ?_
            subst ek'
            exact ⟨((g1.trans g2).trans g3).mono (by omega), .bin .pair k k', rfl, by simp [Kg.dp]; omega, fun e => ⟨by simp [Kg.data, (wk2 e).1, (wk3 e).1], by simp [Kg.closed, (wk2 e).2, (wk3 e).2]⟩⟩
          | false =>
            simp [one, two, three, eight, rn, hc]
            refine wp_mono (ih (g2.well _ hw1) c2) fun d' m3 ⟨g3, k', ek', dk', wk3⟩ => ?_
            subst ek'
            exact ⟨((g1.trans g2).trans g3).mono (by omega), .bin .fn k k', rfl, by simp [Kg.dp]; omega, fun e => absurd (hc2 e) (by decide)⟩
    · have hd0 : dp = 0 := by omega
      subst hd0
      simp [f24, b24, -thenS_nx]
      refine wp_mono (draw' (n := n + 1 + 1) (by omega) hw (by omega) (by decide) (by decide)) fun d m1 ⟨g1, r, er, r1⟩ => ?_
      subst er
      have rs : r = 0 ∨ r = 1 ∨ r = 2 ∨ r = 3 := by omega
      rcases rs with rfl | rfl | rfl | rfl
      iterate 2
        · by_cases hwh : which < 2
          · simp [one, two, three, hwh]; exact vr hwh g1
          · simp [one, two, three, hwh]; exact nm (by omega) g1
      · simp [one]; exact nm (by omega) g1
      · simp [one]; exact un (by omega) g1
end Pk05
end
section -- MpQ2
set_option Elab.async false
set_option linter.all false
set_option maxRecDepth 100000
/-! Mp, part Q2: total runs: dicts that are changed, chains, stars, texts. -/
namespace Mp
open PySem L2
section
variable {m : Sto} {cl : Nat → List D → M D} {C : List D} {r : Env} {Q : D → Sto → Prop}
@[simp] theorem w_dsm {ks : List Key} {vs : List D} : wp (ev cl C (.dsm ks vs) r) m Q ↔ Q (.ref m.length) (m ++ [.dct ks vs]) := by
  simp only [ev]
  exact ⟨fun ⟨_, _, e, q⟩ => (by cases e; exact q), fun q => ⟨_, _, rfl, q⟩⟩
@[simp] theorem w_dspc {k v : E} : wp (ev cl C (.dspc k v) r) m Q ↔ wp (ev cl C k r) m fun x m1 => wp (ev cl C v r) m1 fun y m2 => ∃ q, dKey x = some q ∧ Q (.ref m2.length) (m2 ++ [.dct [q] [y]]) := by
  simp only [ev, wp_bnd']
  refine wp_congr fun x m1 => wp_congr fun y m2 => ?_
  unfold wp
  cases e : dKey x with
  | none => simp
  | some q =>
    simp only [R.ok.injEq, Option.some.injEq]
    constructor
    · rintro ⟨b, m', ⟨e1, e2⟩, q⟩; subst e1 e2; exact ⟨_, rfl, q⟩
    · rintro ⟨b, e1, q⟩; subst e1; exact ⟨_, _, ⟨rfl, rfl⟩, q⟩
@[simp] theorem w_lck {a : E} : wp (ev cl C (.lck a) r) m Q ↔ wp (ev cl C a r) m fun x m1 => wp (lckM x) m1 Q := by
  simp only [ev, wp_bnd']
theorem wp_lck {n : Nat} {ks : List Key} {vs : List D} (h : m[n]? = some (.dct ks vs)) : wp (lckM (.ref n)) m Q ↔ Q (.ref n) (m.set n (.fdc ks vs)) := by
  have : lckM (.ref n) m = .ok (.ref n) (m.set n (.fdc ks vs)) := by unfold lckM; simp only [h]
  exact ⟨fun ⟨_, _, e, q⟩ => (by rw [this] at e; cases e; exact q), fun q => ⟨_, _, this, q⟩⟩
theorem wp_setK {n : Nat} {i x : D} {q : Key} {ks : List Key} {vs : List D} {Q : Unit → Sto → Prop} (h : m[n]? = some (.dct ks vs)) (hq : dKey i = some q) (hl : ks.length < sizeLine) : wp (setD (.ref n) i x) m Q ↔ Q () (m.set n (.dct (putK ks vs q x).1 (putK ks vs q x).2)) := by
  have : setD (.ref n) i x m = .ok () (m.set n (.dct (putK ks vs q x).1 (putK ks vs q x).2)) := by unfold setD; simp only [h, hq, if_pos hl]
  exact ⟨fun ⟨_, _, e, q⟩ => (by rw [this] at e; cases e; exact q), fun q => ⟨_, _, this, q⟩⟩
theorem m_upd {n : Nat} {ks qs : List Key} {vs ws : List D} (h : m[n]? = some (.dct ks vs)) (hl : ks.length + qs.length ≤ sizeLine) : wp (metM .update (.ref n) [.dct qs ws]) m Q ↔ Q .non (m.set n (.dct (putAllK ks vs qs ws).1 (putAllK ks vs qs ws).2)) := by
  have : metM .update (.ref n) [.dct qs ws] m = .ok .non (m.set n (.dct (putAllK ks vs qs ws).1 (putAllK ks vs qs ws).2)) := by unfold metM updD; simp only [h, if_pos hl]
  exact ⟨fun ⟨_, _, e, q⟩ => (by rw [this] at e; cases e; exact q), fun q => ⟨_, _, this, q⟩⟩
theorem m_get1 {n : Nat} {ks : List Key} {vs : List D} {x : D} {q : Key} (h : m[n]? = some (.dct ks vs)) (hq : dKey x = some q) : wp (metM .get1 (.ref n) [x]) m Q ↔ Q ((getK ks vs q).getD .non) m := by
  have : metM .get1 (.ref n) [x] m = .ok ((getK ks vs q).getD .non) m := by unfold metM metD; simp only [h, hq, Option.map_some]
  exact ⟨fun ⟨_, _, e, q⟩ => (by rw [this] at e; cases e; exact q), fun q => ⟨_, _, this, q⟩⟩
theorem r_dct {n : Nat} {ks : List Key} {vs : List D} (h : m[n]? = some (.dct ks vs)) : recOk m .update (.ref n) = true ∧ recOk m .get1 (.ref n) = true := by simp only [recOk, h, and_self]
theorem r_lst {n : Nat} {xs : List D} (h : m[n]? = some (.lst xs)) : recOk m .append (.ref n) = true := by simp only [recOk, h]
theorem sq_fdc {n : Nat} {ks : List Key} {vs : List D} (h : m[n]? = some (.fdc ks vs)) : seqW m (.ref n) = some (.its (ks.map keyD)) := by
  show (match m[n]? with
    | some (Cell.lst _) => some (Wk.live n)
    | some (Cell.tup xs) => some (Wk.its xs)
    | some (Cell.fdc ks _) => some (Wk.its (ks.map keyD))
    | _ => none) = _
  rw [h]
@[simp] theorem sq_str {x : Str} : seqW m (.str x) = some (.its (strD x)) := rfl
@[simp] theorem en_str {x : Str} : enmW m (.str x) = some (.its (enumD 0 (strD x))) := rfl
@[simp] theorem w_tst {es : Es} {st : List Bool} : wp (ev cl C (.tst es st) r) m Q ↔ wp (evs cl C es r) m fun ds m1 => ∃ d, ((splice st ds).bind fun xs => if xs.length ≤ sizeLine then some (D.tup xs) else none) = some d ∧ Q d m1 := by
  simp only [ev, wp_bnd', wp_opt']
@[simp] theorem w_chn {o p : CmpOp} {a b c : E} : wp (ev cl C (.chn o p a b c) r) m Q ↔ wp (ev cl C a r) m fun x m1 => wp (ev cl C b r) m1 fun y m2 => ∃ k, cmpD m2 o x y = some k ∧ if k = true then wp (ev cl C c r) m2 fun z m3 => ∃ k, cmpD m3 p y z = some k ∧ Q (.bl k) m3 else Q (.bl false) m2 := by
  simp only [ev, wp_bnd', wp_cmpM', wp_ret', wp_ite']
@[simp] theorem v_chn {o p : CmpOp} {a b c : E} {Q : Bool → Sto → Prop} : wp (evT cl C (.chn o p a b c) r) m Q ↔ wp (ev cl C a r) m fun x m1 => wp (ev cl C b r) m1 fun y m2 => ∃ k, cmpD m2 o x y = some k ∧ if k = true then wp (ev cl C c r) m2 fun z m3 => ∃ k, cmpD m3 p y z = some k ∧ Q k m3 else Q false m2 := by
  simp only [evT, wp_bnd', wp_cmpM', wp_ret', wp_ite']
@[simp] theorem i_rg2' {a b : E} {Q : Wk → Sto → Prop} : wp (evi cl C (.rg2 a b) r) m Q ↔ wp (ev cl C a r) m fun d m1 => wp (ev cl C b r) m1 fun f m2 => ∃ i j, d = .int i ∧ f = .int j ∧ (small62 i && small62 j) = true ∧ Q (.its (rngD i (j - i).toNat)) m2 := by
  simp only [evi, wp_bnd']
  refine wp_congr fun d m1 => wp_congr fun f m2 => ?_
  cases d <;> cases f <;> simp
end
section
variable {m : Sto}
@[simp] theorem ix_wdc {ks : List Key} {vs : List D} {x : Str} : ixD m (.wdc ks vs) (.str x) = getK ks vs (.inr x) := rfl
@[simp] theorem in_wdc {ks : List Key} {vs : List D} {x : Str} : inD m (.str x) (.wdc ks vs) = some (hasK (.inr x) ks) := rfl
theorem lcL_mapf {α : Type} {one : D → M (Option D)} {h g : α → D} : ∀ {ps : List α}, (∀ p ∈ ps, one (h p) m = .ok (some (g p)) m) → lcL one (ps.map h) m = .ok (ps.map g) m
  | [], _ => rfl
  | x :: xs, q => by
    simp only [List.map_cons, lcL, M.bnd, q x List.mem_cons_self, lcL_mapf (h := h) (g := g) fun y hy => q y (List.mem_cons_of_mem _ hy), M.ret]
theorem lcL_fmf {α β : Type} {one : D → M (Option D)} {h : α → D} {g : α → Option β} {k : β → D} : ∀ {ps : List α}, (∀ p ∈ ps, one (h p) m = .ok ((g p).map k) m) → lcL one (ps.map h) m = .ok ((ps.filterMap g).map k) m
  | [], _ => rfl
  | x :: xs, q => by
    simp only [List.map_cons, lcL, M.bnd, q x List.mem_cons_self, lcL_fmf (h := h) (g := g) (k := k) fun y hy => q y (List.mem_cons_of_mem _ hy), M.ret, List.filterMap_cons]
    cases g x <;> rfl
theorem rngD_succ (lo : Int) (n : Nat) : rngD lo (n + 1) = .int lo :: rngD (lo + 1) n := by
  unfold rngD
  rw [List.range_succ_eq_map, List.map_cons, List.map_map]
  simp only [Int.ofNat_zero, Int.add_zero, List.cons.injEq, List.map_inj_left, Function.comp]
  refine ⟨by simp, fun a _ => by congr 1; omega⟩
end
end Mp
end
section -- G05
set_option Elab.async false
set_option linter.all false
set_option maxRecDepth 100000
set_option maxHeartbeats 4000000
namespace Pk05
open PySem L2 Mp
/-- cells behind the old ones may come, the old ones stay -/
structure Ap (m m' : Sto) : Prop where
  len : m.length ≤ m'.length
  keep : ∀ i, i < m.length → m'[i]? = m[i]?
theorem Ap.refl {m : Sto} : Ap m m := ⟨Nat.le_refl _, fun _ _ => rfl⟩
theorem Ap.trans {m m1 m2 : Sto} (h : Ap m m1) (k : Ap m1 m2) : Ap m m2 := ⟨Nat.le_trans h.len k.len, fun i hi => (k.keep i (Nat.lt_of_lt_of_le hi h.len)).trans (h.keep i hi)⟩
theorem Ap.push {m : Sto} (c : Cell) : Ap m (m ++ [c]) := ⟨by simp, fun i hi => by rw [List.getElem?_append_left hi]⟩
theorem Ap.set {m m1 : Sto} (h : Ap m m1) {n : Nat} (hn : m.length ≤ n) (c : Cell) : Ap m (m1.set n c) := ⟨by rw [List.length_set]; exact h.len, fun i hi => by rw [List.getElem?_set_ne (by omega)]; exact h.keep i hi⟩
theorem Ap.at {m m1 : Sto} (h : Ap m m1) {n : Nat} {c : Cell} (e : m[n]? = some c) : m1[n]? = some c := by rw [h.keep n (List.getElem?_eq_some_iff.mp e).1]; exact e
theorem Ap.go {m m1 : Sto} (h : Ap m m1) {w N : Nat} (hw : Well m w N) : Go w 0 m m1 := ⟨h.len, fun i hi _ => h.keep i hi, fun N ⟨a, b, c, d, e, r⟩ => ⟨a, b, c, d, h.at e, r⟩⟩
def chD (c : Nat) : D := .str ⟨#[c]⟩
theorem strD_eq (z : Str) : strD z = z.cps.toList.map chD := rfl
def sks : List Key := [.inr "name", .inr "fn", .inr "call", .inr "let", .inr "unit", .inr "number", .inr "plus", .inr "times", .inr "minus", .inr "is", .inr "pair", .inr "first", .inr "second", .inr "left", .inr "right", .inr "case", .inr "nil", .inr "cons", .inr "fold"]
def svs : List D := [(.str "n"), (.str "nkt"), (.str "tt"), (.str "ntt"), (.str ""), (.str "i"), (.str "tt"), (.str "tt"), (.str "t"), (.str "stt"), (.str "tt"), (.str "t"), (.str "t"), (.str "tk"), (.str "kt"), (.str "tntnt"), (.str "k"), (.str "tt"), (.str "ttt")]
theorem c4 : C[4]? = some (.wdc sks svs) := rfl
/-- the words, each with the signs of its elements -/
def shp : List (Str × List Nat) := [("name", [110]), ("fn", [110, 107, 116]), ("call", [116, 116]), ("let", [110, 116, 116]), ("unit", []), ("number", [105]), ("plus", [116, 116]), ("times", [116, 116]), ("minus", [116]), ("is", [115, 116, 116]), ("pair", [116, 116]),
  ("first", [116]), ("second", [116]), ("left", [116, 107]), ("right", [107, 116]), ("case", [116, 110, 116, 110, 116]), ("nil", [107]), ("cons", [116, 116]), ("fold", [116, 116, 116])]
def txt (l : List Nat) : Str := ⟨l.toArray⟩
theorem txt_len (l : List Nat) : (txt l).length = l.length := by simp [txt, Str.length]
theorem strD_txt (l : List Nat) : strD (txt l) = l.map chD := by simp [strD_eq, txt]
def shpB (p : Str × List Nat) : Bool := (match getK sks svs (.inr p.1) with
    | some (.str z) => decide (z = txt p.2)
    | _ => false) && (hasK (.inr p.1) sks && (PyData.strOk p.1 && p.2.all fun c => [110, 107, 105, 115, 116].contains c))
theorem shp_all : shp.all shpB = true := by decide +kernel
theorem shp_ok {w : Str} {cs : List Nat} (h : (w, cs) ∈ shp) : getK sks svs (.inr w) = some (.str (txt cs)) ∧ hasK (.inr w) sks = true ∧ PyData.strOk w = true ∧ ∀ c ∈ cs, c = 110 ∨ c = 107 ∨ c = 105 ∨ c = 115 ∨ c = 116 := by
  have := List.all_eq_true.mp shp_all _ h
  simp only [shpB, Bool.and_eq_true] at this
  obtain ⟨h1, h2, h3, h4⟩ := this
  refine ⟨?_, h2, h3, fun c hc => ?_⟩
  · split at h1
    · rename_i z e
      rw [e, of_decide_eq_true h1]
    · cases h1
  · have := List.all_eq_true.mp h4 c hc
    simpa using this
def lenB (p : Str × List Nat) : Bool := decide (p.2.length ≤ 5)
theorem shp_len {w : Str} {cs : List Nat} (h : (w, cs) ∈ shp) : cs.length ≤ 5 := by
  have : shp.all lenB = true := by decide +kernel
  have := List.all_eq_true.mp this _ h
  simpa [lenB] using this
/-- an element as its sign asks -/
def El (NN : List Str) (P : D → Prop) (c : Nat) (e : D) : Prop :=
  if c = 116 then P e else if c = 110 then (∃ x ∈ NN, e = .str x) else if c = 107 then (∃ k : Kg, e = k.d ∧ k.dp ≤ 6) else if c = 115 then (e = .str "<" ∨ e = .str "<=" ∨ e = .str "==") else ∃ i : Int, e = .int i ∧ i.natAbs ≤ 10 ^ 302
def Els (NN : List Str) (P : D → Prop) : List Nat → List D → Prop
  | [], es => es = []
  | c :: cs, es => ∃ e r, es = e :: r ∧ El NN P c e ∧ Els NN P cs r
/-- a term of these names, at most so deep -/
def Tm (NN : List Str) : Nat → D → Prop
  | 0, _ => False
  | n + 1, d => ∃ w cs es, d = .tup (.str w :: es) ∧ (w, cs) ∈ shp ∧ Els NN (Tm NN n) cs es
theorem Els.len {NN : List Str} {P : D → Prop} : ∀ {cs : List Nat} {es : List D}, Els NN P cs es → es.length = cs.length
  | [], es, h => by simp only [Els] at h; subst h; rfl
  | c :: cs, es, h => by
    obtain ⟨e, r, rfl, _, h2⟩ := h
    simp [Els.len h2]
theorem Els.mono {NN : List Str} {P P' : D → Prop} (hp : ∀ d, P d → P' d) : ∀ {cs : List Nat} {es : List D}, Els NN P cs es → Els NN P' cs es
  | [], es, h => h
  | c :: cs, es, h => by
    obtain ⟨e, r, rfl, h1, h2⟩ := h
    refine ⟨e, r, rfl, ?_, h2.mono hp⟩
    unfold El at *
    split
    · rename_i hc; rw [if_pos hc] at h1; exact hp _ h1
    · rename_i hc; rw [if_neg hc] at h1; exact h1
theorem Tm.up {NN : List Str} : ∀ {n : Nat} {d : D}, Tm NN n d → Tm NN (n + 1) d
  | n + 1, d, h => by
    obtain ⟨w, cs, es, rfl, hs, he⟩ := h
    exact ⟨w, cs, es, rfl, hs, he.mono fun d h => Tm.up h⟩
theorem Tm.mono {NN : List Str} {n n' : Nat} {d : D} (h : Tm NN n d) (k : n ≤ n') : Tm NN n' d := by
  induction k with
  | refl => exact h
  | step _ ih => exact ih.up
/-- the terms among the elements, with their places -/
def sb : Nat → List Nat → List D → List (Nat × D)
  | i, c :: cs, e :: es => if c = 116 then (i, e) :: sb (i + 1) cs es else sb (i + 1) cs es
  | _, _, _ => []
/-- the row of a term's subterms -/
def IsSb (d : D) (ps : List (Nat × D)) : Prop := ∃ w cs es, d = .tup (.str w :: es) ∧ (w, cs) ∈ shp ∧ es.length = cs.length ∧ ps = sb 1 cs es
theorem Tm.sb {NN : List Str} {n : Nat} {d : D} (h : Tm NN (n + 1) d) : ∃ ps, IsSb d ps ∧ ∀ p ∈ ps, Tm NN n p.2 := by
  obtain ⟨w, cs, es, rfl, hs, he⟩ := h
  refine ⟨_, ⟨w, cs, es, rfl, hs, he.len, rfl⟩, ?_⟩
  have : ∀ (cs : List Nat) (es : List D) (i : Nat), Els NN (Tm NN n) cs es → ∀ p ∈ Pk05.sb i cs es, Tm NN n p.2 := by
    intro cs
    induction cs with
    | nil => intro es i h p hp; simp [Pk05.sb] at hp
    | cons c cs ih =>
      intro es i h p hp
      obtain ⟨e, r, rfl, h1, h2⟩ := h
      simp only [Pk05.sb] at hp
      split at hp
      · rename_i hc
        rcases List.mem_cons.mp hp with rfl | hp
        · unfold El at h1; rw [if_pos hc] at h1; exact h1
        · exact ih _ _ h2 _ hp
      · exact ih _ _ h2 _ hp
  exact this cs es 1 he
theorem sb_at : ∀ {cs : List Nat} {es : List D} {i : Nat} {p : Nat × D}, p ∈ sb i cs es → i ≤ p.1 ∧ es[p.1 - i]? = some p.2 ∧ cs[p.1 - i]? = some 116
  | [], es, i, p, h => by simp [sb] at h
  | c :: cs, [], i, p, h => by simp [sb] at h
  | c :: cs, e :: es, i, p, h => by
    simp only [sb] at h
    have tail : p ∈ sb (i + 1) cs es → i ≤ p.1 ∧ (e :: es)[p.1 - i]? = some p.2 ∧ (c :: cs)[p.1 - i]? = some 116 := fun h => by
      obtain ⟨h1, h2, h3⟩ := sb_at h
      obtain ⟨j, hj⟩ : ∃ j, p.1 = i + 1 + j := ⟨p.1 - (i + 1), by omega⟩
      rw [show p.1 - (i + 1) = j by omega] at h2 h3
      rw [show p.1 - i = j + 1 by omega]
      exact ⟨by omega, by simpa using h2, by simpa using h3⟩
    split at h
    · rename_i hc
      rcases List.mem_cons.mp h with rfl | h
      · simp [hc]
      · exact tail h
    · exact tail h
def subD (p : Nat × D) : D := .tup [.int (p.1 : Int), p.2]
theorem lcL_sb {one : D → M (Option D)} {m : Sto} : ∀ (cs : List Nat) (es : List D) (i : Nat), es.length = cs.length → (∀ (j : Nat) c e, cs[j]? = some c → es[j]? = some e → one (.tup [.int ((i + j : Nat) : Int), chD c]) m = .ok (if c = 116 then some (subD (i + j + 1, e)) else none) m) →
    lcL one (enumD i (cs.map chD)) m = .ok ((sb (i + 1) cs es).map subD) m
  | [], es, i, hl, h => by cases es <;> rfl
  | c :: cs, [], i, hl, h => by simp at hl
  | c :: cs, e :: es, i, hl, h => by
    have h0 := h 0 c e rfl rfl
    have ih := lcL_sb (one := one) (m := m) cs es (i + 1) (by simpa using hl) fun j c' e' hc he => by
      have := h (j + 1) c' e' (by simpa using hc) (by simpa using he)
      rw [show i + 1 + j = i + (j + 1) by omega]
      exact this
    simp only [Nat.add_zero] at h0
    simp only [List.map_cons, enumD, lcL, M.bnd, h0, ih, M.ret, sb]
    by_cases hc : c = 116 <;> simp [hc]
theorem ok_ch : ∀ c, (c = 110 ∨ c = 107 ∨ c = 105 ∨ c = 115 ∨ c = 116) → PyData.strOk (⟨#[c]⟩ : Str) = true := by
  rintro c (rfl | rfl | rfl | rfl | rfl) <;> decide +kernel
theorem t_is : ("t" : Str) = ⟨#[116]⟩ := by decide +kernel
theorem n_is : ("n" : Str) = ⟨#[110]⟩ := by decide +kernel
theorem k_is : ("k" : Str) = ⟨#[107]⟩ := by decide +kernel
theorem s_is : ("s" : Str) = ⟨#[115]⟩ := by decide +kernel
theorem ch_eq {c c' : Nat} : ((⟨#[c]⟩ : Str) == ⟨#[c']⟩) = decide (c = c') := by
  by_cases h : c = c'
  · subst h; simp
  · simp [h]
theorem e_ch {c c' : Nat} (h : c = 110 ∨ c = 107 ∨ c = 105 ∨ c = 115 ∨ c = 116) (h' : c' = 110 ∨ c' = 107 ∨ c' = 105 ∨ c' = 115 ∨ c' = 116) : eqD (chD c) (.str ⟨#[c']⟩) = some (decide (c = c')) := by
  unfold chD
  rw [e_str (ok_ch c h) (ok_ch c' h'), ch_eq]
theorem g_ch {c c' : Nat} (h : c = 110 ∨ c = 107 ∨ c = 105 ∨ c = 115 ∨ c = 116) (h' : c' = 110 ∨ c' = 107 ∨ c' = 105 ∨ c' = 115 ∨ c' = 116) : eqG (chD c) (.str ⟨#[c']⟩) = some (decide (c = c')) := by
  unfold chD
  rw [g_str (ok_ch c h) (ok_ch c' h'), ch_eq]
theorem r_sub {d : D} {ps : List (Nat × D)} (h : IsSb d ps) (n : Nat) (m : Sto) : run F C (n + 1) 7 [d] m = .ok (.lst (ps.map subD)) m := by
  obtain ⟨w, cs, es, rfl, hs, hl, rfl⟩ := h
  obtain ⟨h1, h2, h3, h4⟩ := shp_ok hs
  have h5 := shp_len hs
  refine wp_eq (wp_run (g := f7) rfl rfl ?_)
  have two := size_2
  have key := lcL_sb (m := m) (one := lcO (run F C n) C (.tp (.c (.nm 1) (.c (.nm 2) .n))) (.c (.cmp .Eq (.loc 2) (.cst (.str "t"))) .n) (.tup (.c (.bin .Add (.loc 1) (.cst (.int 1))) (.c (.sub (.loc 0) (.bin .Add (.loc 1) (.cst (.int 1)))) .n))) [some (.tup (.str w :: es)), none, none]) cs es 0 hl fun j c e hc he => by
    refine wp_eq ?_
    have hcm := h4 c (List.mem_of_getElem? hc)
    have ha : atI (D.str w :: es) ((j : Int) + 1) = some e := by
      have := at_n (xs := D.str w :: es) (j + 1)
      simpa [he] using this
    by_cases h6 : c = 116
    · subst h6
      simp [Tgs.len, Tg.slots, Tgs.slots, wipeD, t_is, e_ch (c := 116) (c' := 116), two, ha, subD]
    · simp [Tgs.len, Tg.slots, Tgs.slots, wipeD, t_is, e_ch hcm, h6]
  simp [f7, b7, c4, h1, strD_txt, eq_wp key]
  have hlen : ∀ (cs : List Nat) (es : List D) (i : Nat), (sb i cs es).length ≤ cs.length := by
    intro cs
    induction cs with
    | nil => intro es i; simp [sb]
    | cons c cs ih =>
      intro es i
      cases es with
      | nil => simp [sb]
      | cons e es =>
        simp only [sb]
        have := ih es (i + 1)
        split
        · simp; omega
        · simp; omega
  have := hlen cs es 1
  have s5 := size_5
  omega
end Pk05
end
section -- H05
set_option Elab.async false
set_option linter.all false
set_option maxRecDepth 100000
set_option maxHeartbeats 4000000
namespace Pk05
open PySem L2 Mp
def sbs : D → List (Nat × D)
  | .tup (.str w :: es) => (match shp.lookup w with
    | some cs => sb 1 cs es
    | none => [])
  | _ => []
def lookB (p : Str × List Nat) : Bool := decide (shp.lookup p.1 = some p.2)
theorem shp_look {w : Str} {cs : List Nat} (h : (w, cs) ∈ shp) : shp.lookup w = some cs := by
  have : shp.all lookB = true := by decide +kernel
  have := List.all_eq_true.mp this _ h
  simpa [lookB] using this
theorem IsSb.eq {d : D} {ps : List (Nat × D)} (h : IsSb d ps) : ps = sbs d := by
  obtain ⟨w, cs, es, rfl, hs, hl, rfl⟩ := h
  simp only [sbs, shp_look hs]
theorem Tm.sbs {NN : List Str} {n : Nat} {d : D} (h : Tm NN (n + 1) d) : IsSb d (sbs d) ∧ ∀ p ∈ sbs d, Tm NN n p.2 := by
  obtain ⟨ps, h1, h2⟩ := h.sb
  rw [← h1.eq]
  exact ⟨h1, h2⟩
theorem sb_len : ∀ (cs : List Nat) (es : List D) (i : Nat), (sb i cs es).length ≤ cs.length
  | [], es, i => by simp [sb]
  | c :: cs, [], i => by simp [sb]
  | c :: cs, e :: es, i => by
    have := sb_len cs es (i + 1)
    simp only [sb]
    split
    · simp; omega
    · simp; omega
theorem IsSb.len {d : D} {ps : List (Nat × D)} (h : IsSb d ps) : ps.length ≤ 5 := by
  obtain ⟨w, cs, es, rfl, hs, hl, rfl⟩ := h
  have := sb_len cs es 1
  have := shp_len hs
  omega
def cnt : Nat → D → Nat
  | 0, _ => 0
  | n + 1, d => 1 + ((sbs d).map fun p => cnt n p.2).sum
def mx : List Nat → Nat
  | [] => 0
  | x :: xs => max x (mx xs)
def dep : Nat → D → Nat
  | 0, _ => 0
  | n + 1, d => 1 + mx ((sbs d).map fun p => dep n p.2)
@[simp] theorem t_sum {m : Sto} {xs : List D} : bltD m .sum [.lst xs] = (intsOf xs).map fun ns => .int ns.sum := rfl
theorem t_max {m : Sto} {xs : List D} : bltD m .max [.lst xs] = (match intsOf xs with
    | some ns => if ns.isEmpty then none else some (.int (maxL ns))
    | none => none) := rfl
theorem ints_map {α : Type} (f : α → Int) : ∀ ps : List α, intsOf (ps.map fun p => D.int (f p)) = some (ps.map f)
  | [] => rfl
  | p :: ps => by simp only [List.map_cons, intsOf, ints_map f ps, Option.map_some]
theorem sum_cast {α : Type} (f : α → Nat) : ∀ ps : List α, (ps.map fun p => ((f p : Nat) : Int)).sum = (((ps.map f).sum : Nat) : Int)
  | [] => rfl
  | p :: ps => by simp only [List.map_cons, List.sum_cons, sum_cast f ps]; omega
theorem maxL_cast : ∀ (x : Nat) (xs : List Nat), maxL ((x :: xs).map fun (n : Nat) => (n : Int)) = ((mx (x :: xs) : Nat) : Int)
  | x, [] => by simp [maxL, mx]
  | x, y :: r => by
    have ih := maxL_cast y r
    simp only [List.map_cons] at ih ⊢
    have e : mx (x :: y :: r) = max x (mx (y :: r)) := rfl
    have e2 : maxL ((x : Int) :: (y : Int) :: r.map fun (n : Nat) => (n : Int)) = if (x : Int) < maxL ((y : Int) :: r.map fun (n : Nat) => (n : Int)) then maxL ((y : Int) :: r.map fun (n : Nat) => (n : Int)) else (x : Int) := rfl
    rw [e2, ih, e]
    by_cases h : (x : Int) < ((mx (y :: r) : Nat) : Int)
    · rw [if_pos h]; omega
    · rw [if_neg h]; omega
theorem max_map {α : Type} {m : Sto} (f : α → Nat) (x : Nat) (ps : List α) : bltD m .max [.lst (D.int (x : Int) :: ps.map fun p => D.int ((f p : Nat) : Int))] = some (.int ((mx (x :: ps.map f) : Nat) : Int)) := by
  have im : intsOf (D.int (x : Int) :: ps.map fun p => D.int ((f p : Nat) : Int)) = some ((x :: ps.map f).map fun (n : Nat) => (n : Int)) := by
    simp only [intsOf, ints_map fun p : α => ((f p : Nat) : Int), Option.map_some, List.map_cons, List.map_map]
    rfl
  rw [t_max, im]
  simp only [maxL_cast]
  rfl
theorem r_count {NN : List Str} : ∀ (n : Nat) (d : D) (lv : Nat) (m : Sto), Tm NN n d → n ≤ lv → run F C (lv + 1) 8 [d] m = .ok (.int (cnt n d)) m
  | 0, d, lv, m, h, hl => h.elim
  | n + 1, d, 0, m, h, hl => by omega
  | n + 1, d, lv + 1, m, h, hl => by
    obtain ⟨h1, h2⟩ := h.sbs
    have h3 := h1.len
    have s5 := size_5
    refine wp_eq (wp_run (g := f8) rfl rfl ?_)
    have key := lcL_mapf (m := m) (h := subD) (g := fun p => .int (cnt n p.2)) (one := lcO (run F C (lv + 1)) C (.tp (.c (.nm 1) (.c (.nm 2) .n))) .n (.call 8 (.c (.loc 2) .n)) [some d, none, none]) (ps := sbs d) fun p hp => by
      refine wp_eq ?_
      have ih := fun m => r_count n p.2 lv m (h2 p hp) (by omega)
      simp [subD, Tgs.len, Tg.slots, Tgs.slots, wipeD, eq_wp (ih _)]
    simp [f8, b8, eq_wp (r_sub h1 _ _), eq_wp key, ints_map, sum_cast, cnt]
    omega
theorem r_depth {NN : List Str} : ∀ (n : Nat) (d : D) (lv : Nat) (m : Sto), Tm NN n d → n ≤ lv → run F C (lv + 1) 9 [d] m = .ok (.int (dep n d)) m
  | 0, d, lv, m, h, hl => h.elim
  | n + 1, d, 0, m, h, hl => by omega
  | n + 1, d, lv + 1, m, h, hl => by
    obtain ⟨h1, h2⟩ := h.sbs
    have h3 := h1.len
    have s5 := size_5
    have s8 := size_8
    have s1 := size_1
    refine wp_eq (wp_run (g := f9) rfl rfl ?_)
    have key := lcL_mapf (m := m) (h := subD) (g := fun p => .int (dep n p.2)) (one := lcO (run F C (lv + 1)) C (.tp (.c (.nm 1) (.c (.nm 2) .n))) .n (.call 9 (.c (.loc 2) .n)) [some d, none, none]) (ps := sbs d) fun p hp => by
      refine wp_eq ?_
      have ih := fun m => r_depth n p.2 lv m (h2 p hp) (by omega)
      simp [subD, Tgs.len, Tg.slots, Tgs.slots, wipeD, eq_wp (ih _)]
    have mm := max_map (m := m) (fun p : Nat × D => dep n p.2) 0 (sbs d)
    have z : mx (0 :: (sbs d).map fun p => dep n p.2) = mx ((sbs d).map fun p => dep n p.2) := by simp [mx]
    rw [z] at mm
    simp [f9, b9, eq_wp (r_sub h1 _ _), eq_wp key, s1, dep]
    refine ⟨by omega, _, ⟨by omega, rfl⟩, ?_⟩
    exact ⟨_, mm, by simp⟩
end Pk05
end
section -- I05
set_option Elab.async false
set_option linter.all false
set_option maxRecDepth 100000
set_option maxHeartbeats 4000000
namespace Pk05
open PySem L2 Mp
theorem in_words {m : Sto} {s : Str} (ok : PyData.strOk s = true) : ∀ {ws : List Str}, (∀ w ∈ ws, PyData.strOk w = true) → inD m (.str s) (.tup (ws.map D.str)) = some (ws.contains s) := fun {ws} h => by
  show (items m (.tup (ws.map D.str))).bind (inL (.str s)) = _
  simp only [items, Option.bind_some]
  induction ws with
  | nil => rfl
  | cons w ws ih =>
    have h1 := g_str (x := w) (y := s) (h w List.mem_cons_self) ok
    simp only [List.map_cons, inL, h1, ih fun z q => h z (List.mem_cons_of_mem _ q), List.contains_cons, w_eq]
    congr 1
    by_cases e : s = w
    · simp [e]
    · simp [e]
      exact fun q => absurd q.symm e
/-! names -/
def inT (s z : Str) : Bool := !(Builtin.Str.occurrences z s 0 z.length 1).isEmpty
theorem in_txt {m : Sto} {s z : Str} : inD m (.str s) (.str z) = some (inT s z) := by simp only [inD, inT]
def letters : Str := "abcdefghijklmnopqrstuvwxyz"
def figures : Str := "0123456789"
def words : List Str := ["fn", "let", "in", "case", "unit", "num", "list", "nil", "cons", "fold", "first", "second", "left", "right"]
def lf : Str := "abcdefghijklmnopqrstuvwxyz0123456789"
theorem lf_is : letters ++ figures = lf := by decide +kernel
theorem lf_len : letters.length + figures.length = 36 := by decide +kernel
theorem words_ok : ∀ w ∈ words, PyData.strOk w = true := by decide +kernel
def goodB (x : Str) : Bool := decide (1 ≤ x.length) && (decide (x.length ≤ 8) && (!words.contains x && ((match x.cps.toList with
  | c :: _ => inT ⟨#[c]⟩ letters
  | [] => false) && x.cps.toList.all fun c => inT ⟨#[c]⟩ lf)))
def nmB (x : Str) : Bool := PyData.strOk x && goodB x
theorem c5 : C[5]? = some (.int 8) := rfl
theorem c7 : C[7]? = some (.str letters) := rfl
theorem c8 : C[8]? = some (.str figures) := rfl
theorem c9 : C[9]? = some (.tup (words.map D.str)) := rfl
theorem len_list (x : Str) : x.length = x.cps.toList.length := by simp [Str.length]
theorem bls_map {α : Type} (f : α → Bool) : ∀ ps : List α, blsOf (ps.map fun p => D.bl (f p)) = some (ps.map f)
  | [] => rfl
  | p :: ps => by simp only [List.map_cons, blsOf, bls_map f ps, Option.map_some]
theorem r_named {x : Str} (h : nmB x = true) (n : Nat) (m : Sto) : run F C (n + 1) 3 [.str x] m = .ok (.bl true) m := by
  simp only [nmB, goodB, Bool.and_eq_true, decide_eq_true_eq, Bool.not_eq_true'] at h
  obtain ⟨ok, l1, l2, nw, h4, h5⟩ := h
  have s8 : x.length ≤ sizeLine := Nat.le_trans l2 size_8
  have iw := in_words (m := m) ok words_ok
  refine wp_eq (wp_run (g := f3) rfl rfl ?_)
  have key := lcL_mapf (m := m) (h := chD) (g := fun c => .bl (inT ⟨#[c]⟩ lf)) (one := lcO (run F C n) C (.nm 1) .n (.cmp .In (.loc 1) (.bin .Add (.glo 7) (.glo 8))) [some (.str x), none]) (ps := x.cps.toList) fun c hc => by
    refine wp_eq ?_
    have s36 : (36 : Nat) ≤ sizeLine := by decide
    simp [chD, Tg.slots, wipeD, c7, c8, lf_len, lf_is, s36, in_txt]
  obtain ⟨c, r, e⟩ : ∃ c r, x.cps.toList = c :: r := by
    cases e : x.cps.toList with
    | nil => rw [len_list, e] at l1; simp at l1
    | cons c r => exact ⟨c, r, rfl⟩
  rw [e] at h4
  have l1' : (1 : Int) ≤ (x.length : Int) := by omega
  have l2' : (x.length : Int) ≤ 8 := by omega
  have i0 : ixD m (.str x) (.int 0) = some (.str ⟨#[c]⟩) := by
    show (if x.length ≤ sizeLine then (atI x.cps.toList 0).map fun c => D.str ⟨#[c]⟩ else none) = _
    rw [if_pos s8, e]
    simp
  have nw' : x ∉ words := by simpa using nw
  simp [f3, b3, isi_ss, l_str s8, c5, l1', l2', c9, iw, nw', i0, c7, in_txt, h4, strD_eq, eq_wp key, bls_map fun c => inT ⟨#[c]⟩ lf]
  exact ⟨by simpa [Str.length] using s8, fun c hc => List.all_eq_true.mp h5 _ (by simp)⟩
def wd13 : List Str := ["fn", "let", "in", "case", "unit", "num", "list", "nil", "cons", "fold", "first", "second", "left"]
theorem words_is : words = wd13 ++ [("right" : Str)] := rfl
theorem filt_map (f : Nat → Bool) : ∀ cs : List Nat, (cs.filterMap fun c => if f c then none else some c) = cs.filter fun c => !f c
  | [] => rfl
  | c :: cs => by
    simp only [List.filterMap_cons, List.filter_cons, filt_map f cs]
    cases f c <;> simp
theorem e_nil {xs : List D} : eqD (.lst xs) (.lst []) = if xs.length = 0 then eqG (.lst []) (.lst []) else some false := by
  cases xs with
  | nil => simp [eqD]
  | cons x xs => simp [eqD]
theorem g_nil : eqG (.lst []) (.lst []) = some true := by decide +kernel
theorem r_lname {x : Str} (ok : PyData.strOk x = true) (hl : x.length ≤ sizeLine) (n : Nat) (m : Sto) : run F C (n + 1) 26 [.str x] m = .ok (.bl (goodB x)) m := by
  refine wp_eq (wp_run (g := f26) rfl rfl ?_)
  have s14 : (13 : Nat) ≤ sizeLine := by decide
  by_cases l1 : 1 ≤ x.length
  · by_cases l2 : x.length ≤ 8
    · obtain ⟨c, r, e⟩ : ∃ c r, x.cps.toList = c :: r := by
        cases e : x.cps.toList with
        | nil => rw [len_list, e] at l1; simp at l1
        | cons c r => exact ⟨c, r, rfl⟩
      have l1' : (1 : Int) ≤ (x.length : Int) := by omega
      have l2' : (x.length : Int) ≤ 8 := by omega
      have i0 : ixD m (.str x) (.int 0) = some (.str ⟨#[c]⟩) := by
        show (if x.length ≤ sizeLine then (atI x.cps.toList 0).map fun c => D.str ⟨#[c]⟩ else none) = _
        rw [if_pos hl, e]
        simp
      have i1 : inD m (.str ⟨#[c]⟩) (.str "abcdefghijklmnopqrstuvwxyz") = some (inT ⟨#[c]⟩ letters) := in_txt
      have iw := in_words (m := m) (ws := wd13) ok (by decide +kernel)
      have er := e_str (x := x) (y := "right") ok (by decide +kernel)
      have ew : words.contains x = (wd13.contains x || (x == ("right" : Str))) := by
        rw [words_is]
        simp only [List.contains_eq_mem, List.mem_append, Bool.decide_or]
        congr 1
        simp only [List.mem_singleton]
        rw [w_eq]
        exact decide_eq_decide.mpr eq_comm
      have gd : goodB x = (!words.contains x && (inT ⟨#[c]⟩ letters && x.cps.toList.all fun c => inT ⟨#[c]⟩ lf)) := by
        simp only [goodB, decide_eq_true l1, decide_eq_true l2, Bool.true_and, e]
      rw [gd, ew]
      generalize hb1 : wd13.contains x = b1 at *
      generalize hb2 : (x == ("right" : Str)) = b2 at *
      simp only [wd13, List.map_cons, List.map_nil] at iw
      have key := lcL_fmf (m := m) (h := chD) (k := chD) (g := fun c => if inT ⟨#[c]⟩ lf then none else some c) (one := lcO (run F C n) C (.nm 2) (.c (.cmp .NotIn (.loc 2) (.cst (.str "abcdefghijklmnopqrstuvwxyz0123456789"))) .n) (.loc 2) [some (.str x), some (.tup (wd13.map D.str)), none]) (ps := x.cps.toList) fun c hc => by
        refine wp_eq ?_
        have i2 : inD m (chD c) (.str "abcdefghijklmnopqrstuvwxyz0123456789") = some (inT ⟨#[c]⟩ lf) := in_txt
        simp [Tg.slots, wipeD, i2]
        cases inT ⟨#[c]⟩ lf <;> simp
      simp only [wd13, List.map_cons, List.map_nil] at key
      cases h1 : inT ⟨#[c]⟩ letters with
      | false => simp [f26, b26, isi_ss, l_str hl, l1', l2', i0, i1, h1]
      | true =>
        cases b1 with
        | true => simp [f26, b26, isi_ss, l_str hl, l1', l2', i0, i1, h1, s14, iw]
        | false =>
          cases b2 with
          | true => simp [f26, b26, isi_ss, l_str hl, l1', l2', i0, i1, h1, s14, iw, er]
          | false =>
            simp [f26, b26, isi_ss, l_str hl, l1', l2', i0, i1, h1, s14, iw, er, strD_eq, eq_wp key, e_nil, g_nil, filt_map]
            refine ⟨Nat.le_trans (List.length_filter_le _ _) (by rw [← len_list]; exact hl), ?_⟩
            by_cases q : ∃ a, a ∈ x.cps ∧ inT ⟨#[a]⟩ lf = false
            · obtain ⟨a, ha, hq⟩ := id q
              obtain ⟨i, hi, e⟩ := Array.getElem_of_mem ha
              exact .inl ⟨q, i, hi, by rw [e]; exact hq⟩
            · have q' : ∀ a, a ∈ x.cps → inT ⟨#[a]⟩ lf = true := fun a ha => by
                cases h : inT ⟨#[a]⟩ lf with
                | true => rfl
                | false => exact absurd ⟨a, ha, h⟩ q
              exact .inr ⟨q', fun i hi => q' _ (Array.getElem_mem hi)⟩
    · have l2' : ¬ (x.length : Int) ≤ 8 := by omega
      have l1' : (1 : Int) ≤ (x.length : Int) := by omega
      have gd : goodB x = false := by simp [goodB, l2]
      simp [f26, b26, isi_ss, l_str hl, l1', l2', gd]
  · have l1' : ¬ (1 : Int) ≤ (x.length : Int) := by omega
    have gd : goodB x = false := by simp [goodB, l1]
    simp [f26, b26, isi_ss, l_str hl, l1', gd]
end Pk05
end
section -- J05
set_option Elab.async false
set_option linter.all false
set_option maxRecDepth 100000
set_option maxHeartbeats 4000000
namespace Pk05
open PySem L2 Mp
/-- its parts, itself among them -/
def Kg.nd : Kg → Nat
  | .bin _ a b => a.nd + b.nd + 1
  | .list a => a.nd + 1
  | _ => 1
theorem ok_words : ∀ w ∈ (["var", "list", "pair", "either", "fun", "unit", "num", "a", "b", "c"] : List Str), PyData.strOk w = true := by decide +kernel
theorem nd_dp : ∀ k : Kg, k.nd + 1 ≤ 2 ^ k.dp
  | .unit => by decide
  | .num => by decide
  | .var _ => by simp [Kg.nd, Kg.dp]
  | .bin w a b => by
    have h1 := nd_dp a
    have h2 := nd_dp b
    have pa : 2 ^ a.dp ≤ 2 ^ max a.dp b.dp := Nat.pow_le_pow_right (by decide) (Nat.le_max_left _ _)
    have pb : 2 ^ b.dp ≤ 2 ^ max a.dp b.dp := Nat.pow_le_pow_right (by decide) (Nat.le_max_right _ _)
    simp only [Kg.nd, Kg.dp, Nat.pow_succ]; omega
  | .list a => by
    have h1 := nd_dp a
    simp only [Kg.nd, Kg.dp, Nat.pow_succ]; omega
theorem len_w : ∀ w ∈ (["var", "list", "pair", "either", "fun", "unit", "num", "a", "b", "c"] : List Str), (reprText w).length ≤ 8 := by decide +kernel
theorem sl_nd : ∀ k : Kg, sl k.d ≤ 25 * k.nd
  | .unit => by have := len_w "unit" (by simp); simp only [Kg.d, sl, slL, Kg.nd]; omega
  | .num => by have := len_w "num" (by simp); simp only [Kg.d, sl, slL, Kg.nd]; omega
  | .var v => by
    have := len_w "var" (by simp)
    have : (reprText v.s).length ≤ 8 := len_w v.s (by cases v <;> simp [Vw.s])
    simp only [Kg.d, sl, slL, Kg.nd]; omega
  | .bin w a b => by
    have h1 := sl_nd a
    have h2 := sl_nd b
    have : (reprText w.s).length ≤ 8 := len_w w.s (by cases w <;> simp [Bw.s])
    simp only [Kg.d, sl, slL, Kg.nd]; omega
  | .list a => by
    have h1 := sl_nd a
    have := len_w "list" (by simp)
    simp only [Kg.d, sl, slL, Kg.nd]; omega
theorem shw_d (b : Nat) : ∀ k : Kg, shw b k.d
  | .unit => by simp only [Kg.d, shw, shwL]; exact ⟨ok_words _ (by simp), trivial⟩
  | .num => by simp only [Kg.d, shw, shwL]; exact ⟨ok_words _ (by simp), trivial⟩
  | .var v => by simp only [Kg.d, shw, shwL]; exact ⟨ok_words _ (by simp), ok_words _ (by cases v <;> simp [Vw.s]), trivial⟩
  | .bin w x y => by simp only [Kg.d, shw, shwL]; exact ⟨ok_words _ (by cases w <;> simp [Bw.s]), shw_d b x, shw_d b y, trivial⟩
  | .list x => by simp only [Kg.d, shw, shwL]; exact ⟨ok_words _ (by simp), shw_d b x, trivial⟩
theorem kd_ok {k : Kg} (h : k.dp ≤ 6) : kd 100 k.d = true ∧ shw B k.d ∧ sl k.d ≤ 1600 ∧ dpt k.d ≤ 6 := by
  have h1 := sl_nd k
  have h2 := nd_dp k
  have p : 2 ^ k.dp ≤ 2 ^ 6 := Nat.pow_le_pow_right (by decide) h
  refine ⟨?_, shw_d B k, by omega, by rw [dpt_d]; exact h⟩
  rw [kd_some (prs_d k)]
  exact decide_eq_true (by omega)
theorem c3 : C[3]? = some (.tup (([("<" : Str), "<=", "=="]).map D.str)) := rfl
theorem r_whole_int (i : Int) (n : Nat) (m : Sto) : run F C (n + 1) 0 [.int i] m = .ok (.bl true) m := by
  refine wp_eq (wp_run (g := f0) rfl rfl ?_)
  simp [f0, b0, isiD]
def NmOk (NN : List Str) : Prop := ∀ x ∈ NN, nmB x = true
theorem r_element {NN : List Str} {P : D → Prop} (hN : NmOk NN) {c : Nat} {e : D} (hc : c = 110 ∨ c = 107 ∨ c = 105 ∨ c = 115 ∨ c = 116) (h6 : c ≠ 116) (h : El NN P c e) {n : Nat} (hn : 110 ≤ n) (m : Sto) : run F C n 4 [chD c, e, .int 100] m = .ok (.bl true) m := by
  obtain ⟨n, rfl⟩ : ∃ a, n = a + 2 := ⟨n - 2, by omega⟩
  refine wp_eq (wp_run (g := f4) rfl rfl ?_)
  unfold El at h
  rw [if_neg h6] at h
  have e1 := fun c' h' => e_ch (c := c) (c' := c') hc h'
  rcases hc with rfl | rfl | rfl | rfl | rfl
  · obtain ⟨x, hx, rfl⟩ := h
    simp [f4, b4, n_is, e1, eq_wp (r_named (hN x hx) _ _)]
  · obtain ⟨k, rfl, hk⟩ := h
    obtain ⟨k1, k2, k3, k4⟩ := kd_ok hk
    obtain ⟨l, rfl⟩ : ∃ a, n = a + 1 := ⟨n - 1, by omega⟩
    have kk : ∀ m, run F C (l + 1 + 1) 2 [k.d, .int 100] m = .ok (.bl true) m := fun m => by
      have := r_kinded (b := B) 100 l m k.d (by omega) k2 (Nat.le_trans k3 (by decide))
      rw [k1] at this
      exact this
    simp [f4, b4, n_is, k_is, e1, eq_wp (kk _)]
  · obtain ⟨i, rfl, hi⟩ := h
    have hb : Builtin.Int.intBits (10 ^ 50) * 8 ≤ 2 ^ 27 := by decide +kernel
    have hb2 : (Builtin.Int.intBits 10 : Int) = 4 := by decide +kernel
    have lt : (if i < 0 then -i else i) < (10 ^ 50) ^ 8 := by
      have : (10 : Nat) ^ 302 < (10 ^ 50) ^ 8 := by decide +kernel
      have q : i.natAbs < (10 ^ 50) ^ 8 := Nat.lt_of_le_of_lt hi this
      have q2 : (i.natAbs : Int) < (((10 ^ 50) ^ 8 : Nat) : Int) := Int.ofNat_lt.mpr q
      have e3 : (((10 ^ 50) ^ 8 : Nat) : Int) = (10 ^ 50) ^ 8 := by decide +kernel
      rw [e3] at q2
      split <;> omega
    simp [f4, b4, n_is, k_is, s_is, e1, eq_wp (r_whole_int _ _ _), hb2]
    refine ⟨_, ⟨by decide +kernel, rfl⟩, congrArg some (decide_eq_true ?_)⟩
    simpa using lt
  · have iw := fun (m : Sto) (s : Str) (ok : PyData.strOk s = true) => in_words (m := m) (ws := [("<" : Str), "<=", "=="]) ok (by decide +kernel)
    simp only [List.map_cons, List.map_nil] at iw
    rcases h with rfl | rfl | rfl
    · have i1 := iw m "<" (by decide +kernel)
      simp [f4, b4, n_is, k_is, s_is, e1, isi_ss, c3, i1]
    · have i1 := iw m "<=" (by decide +kernel)
      simp [f4, b4, n_is, k_is, s_is, e1, isi_ss, c3, i1]
    · have i1 := iw m "==" (by decide +kernel)
      simp [f4, b4, n_is, k_is, s_is, e1, isi_ss, c3, i1]
  · exact absurd rfl h6
theorem forL_n {m : Sto} {r : Mp.Env} {body : D → Mp.Env → M Fl} {Q : Fl → Sto → Prop} : wp (forL body [] r) m Q ↔ Q (.nx r) m := by simp only [forL, wp_ret']
theorem c6 : C[6]? = some (.int 100) := rfl
theorem c2 : C[2]? = some (.int 100) := rfl
theorem Els.at {NN : List Str} {P : D → Prop} : ∀ {cs : List Nat} {es : List D} {j c : Nat}, Els NN P cs es → cs[j]? = some c → ∃ e, es[j]? = some e ∧ El NN P c e
  | [], es, j, c, h, hc => by simp at hc
  | c' :: cs, es, 0, c, h, hc => by
    obtain ⟨e, r, rfl, h1, h2⟩ := h
    simp at hc; subst hc
    exact ⟨e, rfl, h1⟩
  | c' :: cs, es, j + 1, c, h, hc => by
    obtain ⟨e, r, rfl, h1, h2⟩ := h
    obtain ⟨e', q1, q2⟩ := Els.at (j := j) h2 (by simpa using hc)
    exact ⟨e', by simpa using q1, q2⟩
theorem enum_drop {cs : List Nat} {j : Nat} {x : D} {rest : List D} (h : x :: rest = enumD j ((cs.drop j).map chD)) : ∃ c, cs[j]? = some c ∧ x = .tup [.int (j : Int), chD c] ∧ rest = enumD (j + 1) ((cs.drop (j + 1)).map chD) := by
  by_cases hj : j < cs.length
  · rw [List.drop_eq_getElem_cons hj] at h
    simp only [List.map_cons, enumD, List.cons.injEq] at h
    exact ⟨cs[j], by simp [hj], h.1, h.2⟩
  · rw [List.drop_eq_nil_of_le (by omega)] at h
    simp [enumD] at h
theorem r_wrong {NN : List Str} (hN : NmOk NN) : ∀ (n : Nat) (d : D) (dp lv : Nat) (m : Sto), Tm NN n d → n ≤ dp → n + 111 ≤ lv → run F C lv 5 [d, .int dp, .int 100] m = .ok (.lst []) m
  | 0, d, dp, lv, m, h, hd, hl => h.elim
  | n + 1, d, dp, lv, m, h, hd, hl => by
    obtain ⟨lv, rfl⟩ : ∃ a, lv = a + 1 := ⟨lv - 1, by omega⟩
    obtain ⟨dp, rfl⟩ : ∃ a, dp = a + 1 := ⟨dp - 1, by omega⟩
    obtain ⟨w, cs, es, rfl, hs, he⟩ := h
    obtain ⟨h1, h2, h3, h4⟩ := shp_ok hs
    have h5 := shp_len hs
    have hlen := he.len
    have s5 := size_5
    have s0 := size_0
    have hz0 : ((dp : Int) + 1 == 0) = false := by simp; omega
    have hcs : (txt cs).length ≤ sizeLine := by rw [txt_len]; omega
    refine wp_eq (wp_run (g := f5) rfl rfl ?_)
    simp [f5, b5, hz0, isi_tt, isi_ss, s0, -thenS_nx]
    rw [thenS_nx]
    have hl1 : ((cs.length : Int) + 1 == 1 + (cs.length : Int)) = true := by simp; omega
    simp [c4, h1, h2, l_str hcs, txt_len, hlen, hl1, strD_txt, -thenS_nx]
    rw [thenS_nx]
    simp [c4, h1, strD_txt]
    refine wp_forL (fun rest r m' => m' = m ∧ ∃ (j : Nat) (e3 e4 e5 e6 : Option D), rest = enumD j ((cs.drop j).map chD) ∧ r = [some (.tup (.str w :: es)), some (.int ((dp : Int) + 1)), some (.int 100), e3, e4, e5, e6]) _ _ _ ⟨rfl, 0, none, none, none, none, by simp, rfl⟩ ?_ ?_
    · rintro x rest r m' ⟨rfl, j, e3, e4, e5, e6, hr, rfl⟩
      obtain ⟨c, hc, rfl, hr'⟩ := enum_drop hr
      obtain ⟨e, hee, el⟩ := he.at hc
      have hcm := h4 c (List.mem_of_getElem? hc)
      have ha : atI (D.str w :: es) ((j : Int) + 1) = some e := by
        have := at_n (xs := D.str w :: es) (j + 1)
        simpa [hee] using this
      have gn : eqG (.lst []) (.lst []) = some true := g_nil
      by_cases h6 : c = 116
      · subst h6
        have el' : Tm NN n e := by unfold El at el; simpa using el
        have ih := fun m => r_wrong hN n e dp lv m el' (by omega) (by omega)
        simp [Tgs.len, ha, t_is, e_ch (c := 116) (c' := 116), g_ch (c := 116) (c' := 116), eq_wp (ih _), gn, loopQ]
        exact ⟨j + 1, by rw [hr', List.map_drop]⟩
      · have re := fun m => r_element hN hcm h6 el (n := lv) (by omega) m
        simp [Tgs.len, ha, t_is, e_ch hcm, g_ch hcm, h6, eq_wp (re _), gn, loopQ, s0]
        exact ⟨j + 1, by rw [hr', List.map_drop]⟩
    · rintro r m' ⟨rfl, j, e3, e4, e5, e6, hr, rfl⟩
      simp [s0]
end Pk05
end
section -- K05
set_option Elab.async false
set_option linter.all false
set_option maxRecDepth 100000
set_option maxHeartbeats 4000000
namespace Pk05
open PySem L2 Mp
theorem ne_nil : ((eqG (.lst []) (.lst [])).or (eqS (.lst []) (.lst []))).map (!·) = some false := by decide +kernel
theorem r_check {NN : List Str} (hN : NmOk NN) {n lv : Nat} {d : D} (h : Tm NN n d) (hn : n ≤ 100) (hl : 220 ≤ lv) (m : Sto) : run F C lv 13 [d] m = .ok .non m := by
  obtain ⟨lv, rfl⟩ : ∃ a, lv = a + 2 := ⟨lv - 2, by omega⟩
  have rw5 : ∀ m, run F C lv 5 [d, .int 100, .int 100] m = .ok (.lst []) m := fun m => r_wrong hN n d 100 lv m h hn (by omega)
  have r6 : ∀ m, run F C (lv + 1) 6 [d] m = .ok (.lst []) m := fun m => by
    refine wp_eq (wp_run (g := f6) rfl rfl ?_)
    simp [f6, b6, c6, c2, eq_wp (rw5 _)]
  have s0 := size_0
  refine wp_eq (wp_run (g := f13) rfl rfl ?_)
  simp [f13, b13, eq_wp (r6 _), s0, g_nil]
theorem r_partsof {NN : List Str} (hN : NmOk NN) {n lv : Nat} {d : D} (h : Tm NN n d) (hn : n ≤ 100) (hl : 222 ≤ lv) (m : Sto) : run F C lv 14 [d] m = .ok (.int (cnt n d)) m := by
  obtain ⟨lv, rfl⟩ : ∃ a, lv = a + 2 := ⟨lv - 2, by omega⟩
  have rc := fun m => r_check hN h hn (lv := lv + 1) (by omega) m
  have r8 := fun m => r_count n d lv m h (by omega)
  refine wp_eq (wp_run (g := f14) rfl rfl ?_)
  simp [f14, b14, eq_wp (rc _), eq_wp (r8 _)]
theorem r_depthof {NN : List Str} (hN : NmOk NN) {n lv : Nat} {d : D} (h : Tm NN n d) (hn : n ≤ 100) (hl : 222 ≤ lv) (m : Sto) : run F C lv 15 [d] m = .ok (.int (dep n d)) m := by
  obtain ⟨lv, rfl⟩ : ∃ a, lv = a + 2 := ⟨lv - 2, by omega⟩
  have rc := fun m => r_check hN h hn (lv := lv + 1) (by omega) m
  have r8 := fun m => r_depth n d lv m h (by omega)
  refine wp_eq (wp_run (g := f15) rfl rfl ?_)
  simp [f15, b15, eq_wp (rc _), eq_wp (r8 _)]
/-! the law's own forms -/
def k0 : List Key := [.inr "name", .inr "fn", .inr "call", .inr "let", .inr "unit", .inr "number", .inr "plus"]
def v0 : List D := [(.str "n"), (.str "nkt"), (.str "tt"), (.str "ntt"), (.str ""), (.str "i"), (.str "tt")]
def k1 : List Key := [.inr "times", .inr "minus", .inr "is", .inr "pair", .inr "first", .inr "second", .inr "left"]
def v1 : List D := [(.str "tt"), (.str "t"), (.str "stt"), (.str "tt"), (.str "t"), (.str "t"), (.str "tk")]
def k2 : List Key := [.inr "right", .inr "case", .inr "nil", .inr "cons", .inr "fold"]
def v2 : List D := [(.str "kt"), (.str "tntnt"), (.str "k"), (.str "tt"), (.str "ttt")]
def k01 : List Key := (putAllK k0 v0 k1 v1).1
def v01 : List D := (putAllK k0 v0 k1 v1).2
def k02 : List Key := (putAllK k01 v01 k2 v2).1
def v02 : List D := (putAllK k01 v01 k2 v2).2
def lawB (p : Str × List Nat) : Bool := (match getK k02 v02 (.inr p.1) with
    | some (.str z) => decide (z = txt p.2)
    | _ => false)
theorem law_shp {w : Str} {cs : List Nat} (h : (w, cs) ∈ shp) : getK k02 v02 (.inr w) = some (.str (txt cs)) := by
  have : shp.all lawB = true := by decide +kernel
  have h1 := List.all_eq_true.mp this _ h
  simp only [lawB] at h1
  split at h1
  · rename_i z e
    rw [e, of_decide_eq_true h1]
  · cases h1
theorem set_last {m : Sto} {c c' : Cell} : (m ++ [c]).set m.length c' = m ++ [c'] := by simp
theorem b25_is : b25 = (.c (.asg (.nm 1) (.dsm k0 v0)) (.c (.exp (.met .update (.loc 1) (.c (.cst (.dct k1 v1)) .n))) (.c (.exp (.met .update (.loc 1) (.c (.cst (.dct k2 v2)) .n))) (.c (.ret (.met .get1 (.loc 1) (.c (.loc 0) .n))) .n)))) := rfl
theorem r_forms {w : Str} {cs : List Nat} (h : (w, cs) ∈ shp) (n : Nat) (m : Sto) : wp (run F C (n + 1) 25 [.str w]) m fun d m' => d = .str (txt cs) ∧ Ap m m' := by
  refine wp_run (g := f25) rfl rfl ?_
  have at_ : ∀ c : Cell, (m ++ [c])[m.length]? = some c := fun c => by simp
  have l01 : k01.length = 14 := by decide +kernel
  simp only [f25, b25_is]
  simp [r_dct (at_ _)]
  rw [m_upd (at_ _) (by decide +kernel)]
  simp only [set_last, thenS_nx, show (putAllK k0 v0 k1 v1).1 = k01 from rfl, show (putAllK k0 v0 k1 v1).2 = v01 from rfl]
  simp [r_dct (at_ _)]
  rw [m_upd (ks := k01) (vs := v01) (at_ _) (by rw [l01]; decide)]
  simp only [set_last, thenS_nx, show (putAllK k01 v01 k2 v2).1 = k02 from rfl, show (putAllK k01 v01 k2 v2).2 = v02 from rfl]
  simp [r_dct (at_ _)]
  rw [m_get1 (ks := k02) (vs := v02) (q := .inr w) (at_ _) rfl, law_shp h]
  exact ⟨rfl, Ap.push _⟩
end Pk05
end
section -- L05
set_option Elab.async false
set_option linter.all false
set_option maxRecDepth 100000
set_option maxHeartbeats 4000000
namespace Pk05
open PySem L2 Mp
/-- the names that a term binds at a place -/
def bnd : D → Nat → List D
  | .tup (.str w :: es), i => if (w = "fn" ∨ w = "let") ∧ i = 3 then [es.getD 0 .non] else if w = "case" ∧ (i = 3 ∨ i = 5) then [es.getD (i - 2) .non] else []
  | _, _ => []
theorem look_fn : shp.lookup ("fn" : Str) = some [110, 107, 116] := by decide +kernel
theorem look_let : shp.lookup ("let" : Str) = some [110, 116, 116] := by decide +kernel
theorem look_case : shp.lookup ("case" : Str) = some [116, 110, 116, 110, 116] := by decide +kernel
theorem look_name : shp.lookup ("name" : Str) = some [110] := by decide +kernel
theorem shp_fn {w : Str} {cs : List Nat} (h : (w, cs) ∈ shp) : (w = "fn" → cs = [110, 107, 116]) ∧ (w = "let" → cs = [110, 116, 116]) ∧ (w = "case" → cs = [116, 110, 116, 110, 116]) ∧ (w = "name" → cs = [110]) := by
  have h1 := shp_look h
  refine ⟨fun e => ?_, fun e => ?_, fun e => ?_, fun e => ?_⟩
  · rw [e, look_fn] at h1; exact (Option.some.inj h1).symm
  · rw [e, look_let] at h1; exact (Option.some.inj h1).symm
  · rw [e, look_case] at h1; exact (Option.some.inj h1).symm
  · rw [e, look_name] at h1; exact (Option.some.inj h1).symm
theorem in_35 {m : Sto} (i : Nat) : inD m (.int (i : Int)) (.tup [.int 3, .int 5]) = some (decide (i = 3 ∨ i = 5)) := by
  have e3 : ((3 : Int) == (i : Int)) = decide (i = 3) := by
    by_cases h : i = 3
    · subst h; rfl
    · have : ¬ ((3 : Int) = (i : Int)) := by omega
      simp [h, this]
  have e5 : ((5 : Int) == (i : Int)) = decide (i = 5) := by
    by_cases h : i = 5
    · subst h; rfl
    · have : ¬ ((5 : Int) = (i : Int)) := by omega
      simp [h, this]
  show (items m (.tup [.int 3, .int 5])).bind (inL (.int (i : Int))) = _
  simp only [items, Option.bind_some, inL, g_int, e3, e5]
  by_cases h : i = 3 <;> by_cases k : i = 5 <;> simp [h, k]
theorem int3 (i : Nat) : ((i : Int) == 3) = decide (i = 3) := by
  by_cases h : i = 3
  · subst h; rfl
  · have : ¬ ((i : Int) = 3) := by omega
    simp [h, this]
theorem fn_ne : ¬ (("fn" : Str) = "let") ∧ ¬ (("fn" : Str) = "case") ∧ ¬ (("let" : Str) = "fn") ∧ ¬ (("let" : Str) = "case") ∧ ¬ (("case" : Str) = "fn") ∧ ¬ (("case" : Str) = "let") := by decide +kernel
theorem bnd_eq {w : Str} {es : List D} {i : Nat} : bnd (.tup (.str w :: es)) i = if (w = "fn" ∨ w = "let") ∧ i = 3 then [es.getD 0 .non] else if w = "case" ∧ (i = 3 ∨ i = 5) then [es.getD (i - 2) .non] else [] := rfl
theorem bnd_fl {w : Str} {es : List D} {i : Nat} (h : w = "fn" ∨ w = "let") : bnd (.tup (.str w :: es)) i = if i = 3 then [es.getD 0 .non] else [] := by
  obtain ⟨a1, a2, a3, a4, a5, a6⟩ := fn_ne
  have hc : ¬ w = "case" := by rcases h with e | e <;> rw [e] <;> assumption
  rw [bnd_eq]
  by_cases k : i = 3
  · rw [if_pos ⟨h, k⟩, if_pos k]
  · rw [if_neg (fun q => k q.2), if_neg (fun q => hc q.1), if_neg k]
theorem bnd_case {w : Str} {es : List D} {i : Nat} (h : w = "case") : bnd (.tup (.str w :: es)) i = if i = 3 ∨ i = 5 then [es.getD (i - 2) .non] else [] := by
  obtain ⟨a1, a2, a3, a4, a5, a6⟩ := fn_ne
  have hc : ¬ (w = "fn" ∨ w = "let") := by rw [h]; rintro (q | q) <;> contradiction
  rw [bnd_eq]
  rw [if_neg (fun q => hc q.1)]
  by_cases k : i = 3 ∨ i = 5
  · rw [if_pos ⟨h, k⟩, if_pos k]
  · rw [if_neg (fun q => k q.2), if_neg k]
theorem bnd_no {w : Str} {es : List D} {i : Nat} (h : ¬ (w = "fn" ∨ w = "let")) (k : ¬ w = "case") : bnd (.tup (.str w :: es)) i = [] := by
  rw [bnd_eq]
  rw [if_neg (fun q => h q.1), if_neg (fun q => k q.1)]
theorem e_w {w v : Str} (h : PyData.strOk w = true) (k : PyData.strOk v = true) : (w = v → eqD (.str w) (.str v) = some true) ∧ (¬ w = v → eqD (.str w) (.str v) = some false) := by
  have := e_str h k
  refine ⟨fun e => ?_, fun e => ?_⟩
  · rw [this, w_eq]; simp [e]
  · rw [this, w_eq]; simp; exact fun q => e q.symm
theorem ok_fn : PyData.strOk "fn" = true ∧ PyData.strOk "let" = true ∧ PyData.strOk "case" = true ∧ PyData.strOk "name" = true := by decide +kernel
theorem r_bound {d : D} {ps : List (Nat × D)} (h : IsSb d ps) (i : Nat) (n : Nat) (m : Sto) : run F C (n + 1) 11 [d, .int (i : Int)] m = .ok (.tup (bnd d i)) m := by
  obtain ⟨w, cs, es, rfl, hs, hl, rfl⟩ := h
  obtain ⟨h1, h2, h3, h4⟩ := shp_ok hs
  obtain ⟨q1, q2, q3, _⟩ := shp_fn hs
  obtain ⟨f1, f0⟩ := e_w h3 ok_fn.1
  obtain ⟨l1, l0⟩ := e_w h3 ok_fn.2.1
  obtain ⟨c1, c0⟩ := e_w h3 ok_fn.2.2.1
  obtain ⟨a1, a2, a3, a4, a5, a6⟩ := fn_ne
  have s1 := size_1
  have s0 := size_0
  have s2 := size_2
  refine wp_eq (wp_run (g := f11) rfl rfl ?_)
  by_cases hf : w = "fn"
  · have e1 := f1 hf
    have e2 := l0 (by rw [hf]; exact a1)
    have e3 := c0 (by rw [hf]; exact a2)
    rw [bnd_fl (.inl hf)]
    have hes : ∃ a r, es = a :: r := by
      rw [q1 hf] at hl
      cases es with
      | nil => simp at hl
      | cons a r => exact ⟨a, r, rfl⟩
    obtain ⟨a, r, rfl⟩ := hes
    clear hf f1 f0 l1 l0 c1 c0
    by_cases k3 : i = 3
    · simp [f11, b11, e1, int3, k3, s1]
    · simp [f11, b11, e1, e2, e3, int3, k3, s0]
  · by_cases hlt : w = "let"
    · have e1 := f0 hf
      have e2 := l1 hlt
      have e3 := c0 (by rw [hlt]; exact a4)
      rw [bnd_fl (.inr hlt)]
      have hes : ∃ a r, es = a :: r := by
        rw [q2 hlt] at hl
        cases es with
        | nil => simp at hl
        | cons a r => exact ⟨a, r, rfl⟩
      obtain ⟨a, r, rfl⟩ := hes
      clear hf f1 f0 l1 l0 c1 c0
      by_cases k3 : i = 3
      · simp [f11, b11, e1, e2, int3, k3, s1]
      · simp [f11, b11, e1, e2, e3, int3, k3, s0]
    · have e1 := f0 hf
      have e2 := l0 hlt
      by_cases hca : w = "case"
      · have e3 := c1 hca
        rw [bnd_case hca]
        rw [q3 hca] at hl
        clear f1 f0 l1 l0 c1 c0
        have hin := in_35 (m := m) i
        by_cases k3 : i = 3 ∨ i = 5
        · rw [decide_eq_true k3] at hin
          rw [if_pos k3]
          match es, hl with
          | [a, b, c, d, e], _ =>
            rcases k3 with rfl | rfl
            · simp only [Int.cast_ofNat_Int] at hin
              simp [f11, b11, e1, e2, e3, s1, s2, hin]
            · simp only [Int.cast_ofNat_Int] at hin
              simp [f11, b11, e1, e2, e3, s1, s2, hin]
        · rw [decide_eq_false k3] at hin
          rw [if_neg k3]
          simp [f11, b11, e1, e2, e3, s1, s2, s0, hin]
      · have e3 := c0 hca
        rw [bnd_no (by rintro (q | q) <;> contradiction) hca]
        simp [f11, b11, e1, e2, e3, s0]
theorem ix_txt {m : Sto} {cs : List Nat} {j c : Nat} (h : cs[j]? = some c) (hl : cs.length ≤ sizeLine) : ixD m (.str (txt cs)) (.int (j : Int)) = some (chD c) := by
  show (if (txt cs).length ≤ sizeLine then (atI (txt cs).cps.toList (j : Int)).map fun c => D.str ⟨#[c]⟩ else none) = _
  rw [if_pos (by rw [txt_len]; exact hl), at_n]
  simp [txt, h, chD]
abbrev Rw := List Nat × D × List D
def rows : Nat → D → List Nat → List D → List Rw
  | 0, _, _, _ => []
  | n + 1, d, p, b => (p, d, b) :: ((sbs d).map fun q => rows n q.2 (p ++ [q.1]) (b ++ bnd d q.1)).flatten
def pD (p : List Nat) : D := .tup (p.map fun (i : Nat) => .int (i : Int))
def rowD (r : Rw) : D := .tup [pD r.1, r.2.1, .tup r.2.2]
def innerS : S := (.iff (.and (.c (.cmp .In (.sub (.loc 0) (.cst (.int 0))) (.tup (.c (.cst (.str "fn")) (.c (.cst (.str "let")) .n)))) (.c (.cmp .Eq (.loc 3) (.cst (.int 3))) .n))) (.c (.asg (.nm 6) (.bin .Add (.loc 2) (.tup (.c (.sub (.loc 0) (.cst (.int 1))) .n)))) .n) (.c (.iff (.and (.c (.cmp .Eq (.sub (.loc 0) (.cst (.int 0))) (.cst (.str "case"))) (.c (.cmp .In (.loc 3) (.tup (.c (.cst (.int 3)) (.c (.cst (.int 5)) .n)))) .n))) (.c (.asg (.nm 6) (.bin .Add (.loc 2) (.tup (.c (.sub (.loc 0) (.bin .Sub (.loc 3) (.cst (.int 1)))) .n)))) .n) .n) .n))
def bodyS : Ss := (.c (.iff (.cmp .NotEq (.sub (.loc 5) (.bin .Sub (.loc 3) (.cst (.int 1)))) (.cst (.str "t"))) (.c .cnt .n) .n) (.c (.asg (.nm 6) (.loc 2)) (.c innerS (.c (.asg (.nm 4) (.bin .Add (.loc 4) (.call 32 (.c (.sub (.loc 0) (.loc 3)) (.c (.bin .Add (.loc 1) (.tup (.c (.loc 3) .n))) (.c (.loc 6) .n)))))) .n))))
theorem b32_is : b32 = (.c (.asg (.tp (.c (.nm 4) (.c (.nm 5) .n))) (.tup (.c (.lst (.c (.tup (.c (.loc 1) (.c (.loc 0) (.c (.loc 2) .n)))) .n)) (.c (.call 25 (.c (.sub (.loc 0) (.cst (.int 0))) .n)) .n)))) (.c (.fr (.nm 3) (.rg2 (.cst (.int 1)) (.blt .len (.c (.loc 0) .n))) bodyS) (.c (.ret (.loc 4)) .n))) := rfl
theorem inner_run {d : D} {ps : List (Nat × D)} (h : IsSb d ps) {i : Nat} {b : List D} (hb : b.length < sizeLine) {p f z : Option D} {m : Sto} {cl : Nat → List D → M D} {Q : Fl → Sto → Prop} (q : Q (.nx [some d, p, some (.tup b), some (.int (i : Int)), f, z, some (.tup (b ++ bnd d i))]) m) :
    wp (ex cl C innerS [some d, p, some (.tup b), some (.int (i : Int)), f, z, some (.tup b)]) m Q := by
  obtain ⟨w, cs, es, rfl, hs, hl, rfl⟩ := h
  obtain ⟨h1, h2, h3, h4⟩ := shp_ok hs
  obtain ⟨q1, q2, q3, _⟩ := shp_fn hs
  obtain ⟨c1, c0⟩ := e_w h3 ok_fn.2.2.1
  obtain ⟨a1, a2, a3, a4, a5, a6⟩ := fn_ne
  have ifl := in_words (m := m) (s := w) (ws := [("fn" : Str), "let"]) h3 (by decide +kernel)
  simp only [List.map_cons, List.map_nil] at ifl
  have s1 := size_1
  have s2 := size_2
  have hb' : b.length + 1 ≤ sizeLine := hb
  by_cases hf : w = "fn" ∨ w = "let"
  · have hin : inD m (.str w) (.tup [.str "fn", .str "let"]) = some true := by
      rw [ifl]; simp; exact hf
    have e3 := c0 (by rcases hf with e | e <;> rw [e] <;> assumption)
    rw [bnd_fl hf] at q
    have hes : ∃ a r, es = a :: r := by
      have hc3 : es.length = 3 := by
        rcases hf with e | e
        · rw [hl, q1 e]; rfl
        · rw [hl, q2 e]; rfl
      cases es with
      | nil => simp at hc3
      | cons a r => exact ⟨a, r, rfl⟩
    obtain ⟨a, r, rfl⟩ := hes
    clear hf c1 c0 ifl
    by_cases k3 : i = 3
    · rw [if_pos k3] at q
      simp [innerS, s1, s2, hin, int3, k3, hb']
      simpa [k3] using q
    · rw [if_neg k3, List.append_nil] at q
      simp [innerS, s1, s2, hin, int3, k3, e3]
      exact q
  · have hin : inD m (.str w) (.tup [.str "fn", .str "let"]) = some false := by
      rw [ifl]; simp; simpa using hf
    by_cases hca : w = "case"
    · have e3 := c1 hca
      rw [bnd_case hca] at q
      rw [q3 hca] at hl
      clear c1 c0 ifl hf
      have h35 := in_35 (m := m) i
      by_cases k3 : i = 3 ∨ i = 5
      · rw [decide_eq_true k3] at h35
        rw [if_pos k3] at q
        match es, hl, q with
        | [a, b', c, d, e], _, q =>
          rcases k3 with rfl | rfl
          · simp only [Int.cast_ofNat_Int] at h35
            simp [innerS, s1, s2, hin, e3, h35, hb']
            simpa using q
          · simp only [Int.cast_ofNat_Int] at h35
            simp [innerS, s1, s2, hin, e3, h35, hb']
            simpa using q
      · rw [decide_eq_false k3] at h35
        rw [if_neg k3, List.append_nil] at q
        simp [innerS, s1, s2, hin, e3, h35]
        exact q
    · have e3 := c0 hca
      rw [bnd_no hf hca, List.append_nil] at q
      simp [innerS, s1, s2, hin, e3]
      exact q
end Pk05
end
section -- M05
set_option Elab.async false
set_option linter.all false
set_option maxRecDepth 100000
set_option maxHeartbeats 4000000
namespace Pk05
open PySem L2 Mp
theorem sb_cons {i c : Nat} {e : D} {cs : List Nat} {es : List D} : sb i (c :: cs) (e :: es) = if c = 116 then (i, e) :: sb (i + 1) cs es else sb (i + 1) cs es := rfl
theorem rows_len {n : Nat} : ∀ {d : D} {p : List Nat} {b : List D}, (rows n d p b).length = cnt n d := by
  induction n with
  | zero => intro d p b; rfl
  | succ n ih =>
    intro d p b
    simp only [rows, cnt, List.length_cons, List.length_flatten, List.map_map]
    rw [Nat.add_comm]
    congr 2
    exact List.map_congr_left fun q _ => ih
def rsum (n : Nat) (d : D) (p : List Nat) (b : List D) (qs : List (Nat × D)) : List Rw := (qs.map fun q => rows n q.2 (p ++ [q.1]) (b ++ bnd d q.1)).flatten
theorem rsum_cons {n : Nat} {d : D} {p : List Nat} {b : List D} {q : Nat × D} {qs : List (Nat × D)} : rsum n d p b (q :: qs) = rows n q.2 (p ++ [q.1]) (b ++ bnd d q.1) ++ rsum n d p b qs := by simp [rsum]
theorem bnd_len {d : D} {i : Nat} : (bnd d i).length ≤ 1 := by
  unfold bnd
  split
  · split
    · simp
    · split <;> simp
  · simp
theorem pD_add {p : List Nat} {i : Nat} : (p.map fun (i : Nat) => D.int (i : Int)) ++ [D.int (i : Int)] = (p ++ [i]).map fun (i : Nat) => D.int (i : Int) := by simp
/-- behind j elements: what is found so far -/
def I32 (n : Nat) (w : Str) (cs : List Nat) (es : List D) (p : List Nat) (b : List D) (m : Sto) (rest : List D) (r : Mp.Env) (m' : Sto) : Prop :=
  ∃ (j : Nat) (acc : List Rw) (e3 e6 : Option D), j ≤ es.length ∧ rest = rngD ((1 + j : Nat) : Int) (es.length - j) ∧ r = [some (.tup (.str w :: es)), some (pD p), some (.tup b), e3, some (.lst (acc.map rowD)), some (.str (txt cs)), e6] ∧ acc ++ rsum n (.tup (.str w :: es)) p b (sb (1 + j) (cs.drop j) (es.drop j)) = rows (n + 1) (.tup (.str w :: es)) p b ∧ Ap m m'
theorem cne_t {m : Sto} {c : Nat} (h : c = 110 ∨ c = 107 ∨ c = 105 ∨ c = 115 ∨ c = 116) : cmpD m .NotEq (chD c) (.str "t") = some (!decide (c = 116)) := by
  rw [t_is, c_ne, g_ch h (by simp)]
  rfl
theorem sb_mem : ∀ {cs : List Nat} {es : List D} {i j : Nat} {e : D}, cs[j]? = some 116 → es[j]? = some e → (i + j, e) ∈ sb i cs es
  | [], es, i, j, e, h, k => by simp at h
  | c :: cs, [], i, j, e, h, k => by simp at k
  | c :: cs, x :: es, i, 0, e, h, k => by
    simp at h k
    subst h k
    rw [sb_cons, if_pos rfl]
    exact List.mem_cons_self
  | c :: cs, x :: es, i, j + 1, e, h, k => by
    have := sb_mem (i := i + 1) (j := j) (e := e) (cs := cs) (es := es) (by simpa using h) (by simpa using k)
    rw [show i + 1 + j = i + (j + 1) by omega] at this
    rw [sb_cons]
    split
    · exact List.mem_cons_of_mem _ this
    · exact this
theorem sum_mem : ∀ {xs : List Nat} {x : Nat}, x ∈ xs → x ≤ xs.sum
  | y :: xs, x, h => by
    simp only [List.sum_cons]
    rcases List.mem_cons.mp h with rfl | h
    · omega
    · have := sum_mem h; omega
theorem r_walked {NN : List Str} : ∀ (n : Nat) (d : D) (p : List Nat) (b : List D) (lv : Nat) (m : Sto), Tm NN n d → n ≤ lv → p.length + n ≤ 1000 → b.length + n ≤ 1000 → cnt n d ≤ 1000000 →
    wp (run F C (lv + 1) 32 [d, pD p, .tup b]) m fun r m' => r = .lst ((rows n d p b).map rowD) ∧ Ap m m'
  | 0, d, p, b, lv, m, h, _, _, _, _ => h.elim
  | n + 1, d, p, b, lv, m, h, hl, hp, hb, hc => by
    obtain ⟨lv, rfl⟩ : ∃ a, lv = a + 1 := ⟨lv - 1, by omega⟩
    obtain ⟨hsb, hsub⟩ := h.sbs
    have h0 := h
    obtain ⟨w, cs, es, rfl, hs, he⟩ := h
    obtain ⟨h1, h2, h3, h4⟩ := shp_ok hs
    have h5 := shp_len hs
    have hlen := he.len
    have s1 := size_1
    have s2 := size_2
    have s3 := size_3
    have mil := million'
    have hsz : cs.length ≤ sizeLine := Nat.le_trans h5 size_5
    have esb : sbs (.tup (.str w :: es)) = sb 1 cs es := by simp only [sbs, shp_look hs]
    have hrl : (rows (n + 1) (.tup (.str w :: es)) p b).length ≤ 1000000 := by rw [rows_len]; exact hc
    have hrow : rows (n + 1) (.tup (.str w :: es)) p b = (p, .tup (.str w :: es), b) :: rsum n (.tup (.str w :: es)) p b (sb 1 cs es) := by simp only [rows, esb, rsum]
    refine wp_run (g := f32) rfl rfl ?_
    simp only [f32, b32_is]
    simp [s3, s1, s2, Tgs.len, -thenS_nx]
    refine wp_mono (r_forms hs lv m) fun z m1 ⟨ez, ap1⟩ => ?_
    subst ez
    have sm2 : small62 ((es.length : Int) + 1) = true := by
      rw [hlen]
      unfold small62
      simp
      omega
    have sm1 : small62 1 = true := by decide
    rw [thenS_nx]
    simp [sm1, sm2, -thenS_nx]
    have tn : ((es.length : Int) + 1 - 1).toNat = es.length := by omega
    refine wp_forL (I32 n w cs es p b m) _ _ _ ?_ ?_ ?_
    · unfold I32
      refine ⟨0, [(p, .tup (.str w :: es), b)], none, none, Nat.zero_le _, ?_, ?_, ?_, ap1⟩
      · simp [tn]
      · simp [rowD]
      · rw [hrow]; simp
    · intro x rest r m' hI
      unfold I32 at hI
      obtain ⟨j, acc, e3, e6, hj, hr, rfl, hacc, ap⟩ := hI
      have hjl : j < es.length := by
        rcases Nat.lt_or_ge j es.length with q | q
        · exact q
        · rw [show es.length - j = 0 by omega] at hr
          simp [rngD] at hr
      obtain ⟨k, hk⟩ : ∃ k, es.length - j = k + 1 := ⟨es.length - j - 1, by omega⟩
      rw [hk, rngD_succ] at hr
      obtain ⟨rfl, rfl⟩ := List.cons.inj hr
      have hjc : j < cs.length := by omega
      have hcj : cs[j]? = some cs[j] := by simp [hjc]
      obtain ⟨e, hee, el⟩ := he.at hcj
      have hee' : es[j] = e := by rw [List.getElem?_eq_getElem hjl] at hee; exact Option.some.inj hee
      have hcm := h4 _ (List.getElem_mem hjc)
      have ixt := ix_txt (m := m') hcj hsz
      rw [List.drop_eq_getElem_cons hjc, List.drop_eq_getElem_cons hjl, sb_cons, hee'] at hacc
      have sub1 : (1 + (j : Int)) - 1 = (j : Int) := by omega
      have next : ((1 + j : Nat) : Int) + 1 = ((1 + (j + 1) : Nat) : Int) := by omega
      have hk' : k = es.length - (j + 1) := by omega
      have cne := cne_t (m := m') hcm
      have ixe : atI (D.str w :: es) (1 + (j : Int)) = some e := by
        have := at_n (xs := D.str w :: es) (j + 1)
        rw [show ((j + 1 : Nat) : Int) = 1 + (j : Int) by omega] at this
        simpa [hee] using this
      simp only [bodyS]
      by_cases h6 : cs[j] = 116
      · rw [if_pos h6, rsum_cons] at hacc
        rw [h6] at ixt hcm cne hcj
        have el' : Tm NN n e := by unfold El at el; simpa [h6] using el
        have hmem : (1 + j, e) ∈ sb 1 cs es := sb_mem hcj hee
        have hce : cnt n e ≤ 1000000 := by
          simp only [cnt, esb] at hc
          have := sum_mem (List.mem_map_of_mem (f := fun q : Nat × D => cnt n q.2) hmem)
          simp only at this
          omega
        have bl := bnd_len (d := .tup (.str w :: es)) (i := 1 + j)
        have hla : acc.length + (rows n e (p ++ [1 + j]) (b ++ bnd (.tup (.str w :: es)) (1 + j))).length ≤ sizeLine := by
          have := congrArg List.length hacc
          simp only [List.length_append] at this
          omega
        have ih := fun m => r_walked n e (p ++ [1 + j]) (b ++ bnd (.tup (.str w :: es)) (1 + j)) lv m el' (by omega) (by simp; omega) (by simp; omega) hce
        simp [sub1, ixt, cne, -c_ne, -thenS_nx]
        rw [thenS_nx]
        simp [-thenS_nx]
        rw [thenS_nx, x_c]
        have cj : (1 + (j : Int)) = ((1 + j : Nat) : Int) := by omega
        rw [cj]
        refine inner_run hsb (i := 1 + j) (b := b) (by omega) ?_
        rw [thenS_nx]
        rw [← cj]
        have pl : p.length + 1 ≤ sizeLine := by omega
        simp [ixe, pD, s1, pl, -thenS_nx]
        have epd : D.tup (p.map (fun (i : Nat) => D.int (i : Int)) ++ [D.int (1 + (j : Int))]) = pD (p ++ [1 + j]) := by rw [cj]; simp [pD]
        rw [epd]
        refine wp_mono (ih m') fun z m2 ⟨ez, ap2⟩ => ?_
        subst ez
        simp [hla, loopQ]
        unfold I32
        refine ⟨j + 1, acc ++ rows n e (p ++ [1 + j]) (b ++ bnd (.tup (.str w :: es)) (1 + j)), some (.int (1 + (j : Int))), some (.tup (b ++ bnd (.tup (.str w :: es)) (1 + j))), by omega, by rw [hk']; exact congrArg (fun z => rngD z _) (by omega), ?_, ?_, ap.trans ap2⟩
        · simp [pD]
        · rw [← hacc, List.append_assoc]; rfl
      · rw [if_neg h6] at hacc
        simp [sub1, ixt, cne, h6, -c_ne, loopQ]
        unfold I32
        refine ⟨j + 1, acc, some (.int (1 + (j : Int))), e6, by omega, by rw [hk']; exact congrArg (fun z => rngD z _) (by omega), by simp, ?_, ap⟩
        exact hacc
    · intro r m' hI
      unfold I32 at hI
      obtain ⟨j, acc, e3, e6, hj, hr, rfl, hacc, ap⟩ := hI
      have hjl : j = es.length := by
        rcases Nat.lt_or_ge j es.length with q | q
        · obtain ⟨k, hk⟩ : ∃ k, es.length - j = k + 1 := ⟨es.length - j - 1, by omega⟩
          rw [hk, rngD_succ] at hr; cases hr
        · omega
      subst hjl
      rw [List.drop_eq_nil_of_le (by omega)] at hacc
      simp [sb, rsum] at hacc
      simp [hacc]
      exact ap
end Pk05
end
section -- N05
set_option Elab.async false
set_option linter.all false
set_option maxRecDepth 100000
set_option maxHeartbeats 4000000
namespace Pk05
open PySem L2 Mp
def leS (a b : Str) : Prop := ¬ b.cps.toList < a.cps.toList
theorem leS_trans {a b c : Str} (h : leS a b) (k : leS b c) : leS a c := by
  unfold leS at *
  rw [List.not_lt] at *
  exact List.le_trans h k
theorem leS_total (a b : Str) : leS a b ∨ leS b a := by
  unfold leS
  rw [List.not_lt, List.not_lt]
  exact List.le_total _ _
theorem leS_anti {a b : Str} (h : leS a b) (k : leS b a) : a = b := by
  unfold leS at *
  rw [List.not_lt] at *
  have := List.le_antisymm h k
  cases a; cases b
  simpa [Array.toList_inj] using this
theorem insS_mem {x y : Str} : ∀ {xs : List Str}, y ∈ insS x xs → y = x ∨ y ∈ xs
  | [], h => .inl (by simpa [insS] using h)
  | z :: xs, h => by
    unfold insS at h
    split at h
    · rcases List.mem_cons.mp h with rfl | h
      · exact .inr List.mem_cons_self
      · rcases insS_mem h with h | h
        · exact .inl h
        · exact .inr (List.mem_cons_of_mem _ h)
    · rcases List.mem_cons.mp h with rfl | h
      · exact .inl rfl
      · exact .inr h
theorem insS_perm (x : Str) : ∀ xs : List Str, (insS x xs).Perm (x :: xs)
  | [] => .refl _
  | z :: xs => by
    unfold insS
    split
    · exact ((insS_perm x xs).cons z).trans (.swap _ _ _)
    · exact .refl _
theorem sortS_perm : ∀ xs : List Str, (sortS xs).Perm xs
  | [] => .refl _
  | x :: xs => (insS_perm x (sortS xs)).trans ((sortS_perm xs).cons x)
theorem insS_pw (x : Str) : ∀ {xs : List Str}, xs.Pairwise leS → (insS x xs).Pairwise leS
  | [], _ => by simp [insS]
  | z :: xs, h => by
    unfold insS
    obtain ⟨h1, h2⟩ := List.pairwise_cons.mp h
    split
    · rename_i hz
      have hz : z.cps.toList < x.cps.toList := of_decide_eq_true hz
      refine List.pairwise_cons.mpr ⟨fun y hy => ?_, insS_pw x h2⟩
      rcases insS_mem hy with rfl | hy
      · rcases leS_total z y with q | q
        · exact q
        · exact absurd hz q
      · exact h1 y hy
    · rename_i hz
      have hz : leS x z := fun q => hz (decide_eq_true q)
      refine List.pairwise_cons.mpr ⟨fun y hy => ?_, h⟩
      rcases List.mem_cons.mp hy with rfl | hy
      · exact hz
      · exact leS_trans hz (h1 y hy)
theorem sortS_pw : ∀ xs : List Str, (sortS xs).Pairwise leS
  | [] => .nil
  | x :: xs => insS_pw x (sortS_pw xs)
theorem sort_same {xs ys : List Str} (h1 : xs.Nodup) (h2 : ys.Nodup) (h : ∀ x, x ∈ xs ↔ x ∈ ys) : sortS xs = sortS ys :=
  List.Perm.eq_of_pairwise (le := leS) (fun a b _ _ h k => leS_anti h k) (sortS_pw xs) (sortS_pw ys) (((sortS_perm xs).trans ((List.perm_ext_iff_of_nodup h1 h2).mpr h)).trans (sortS_perm ys).symm)
/-! depth -/
theorem mx_append : ∀ (xs ys : List Nat), mx (xs ++ ys) = max (mx xs) (mx ys)
  | [], ys => by simp [mx]
  | x :: xs, ys => by simp only [List.cons_append, mx, mx_append xs ys]; omega
theorem dep_pos {NN : List Str} {n : Nat} {d : D} (h : Tm NN n d) : 1 ≤ dep n d := by
  cases n with
  | zero => exact h.elim
  | succ n => simp only [dep]; omega
theorem rows_dep {NN : List Str} : ∀ (n : Nat) (d : D) (p : List Nat) (b : List D), Tm NN n d → mx ((rows n d p b).map fun r => r.1.length) + 1 = p.length + dep n d
  | 0, d, p, b, h => h.elim
  | n + 1, d, p, b, h => by
    obtain ⟨h1, h2⟩ := h.sbs
    have key : ∀ qs : List (Nat × D), (∀ q ∈ qs, Tm NN n q.2) → (qs = [] ∧ (rsum n d p b qs) = []) ∨ (mx ((rsum n d p b qs).map fun r => r.1.length) = p.length + mx (qs.map fun q => dep n q.2) ∧ 1 ≤ mx (qs.map fun q => dep n q.2)) := by
      intro qs
      induction qs with
      | nil => intro _; exact .inl ⟨rfl, rfl⟩
      | cons q qs ih =>
        intro hq
        have r1 := rows_dep n q.2 (p ++ [q.1]) (b ++ bnd d q.1) (hq q List.mem_cons_self)
        have d1 := dep_pos (hq q List.mem_cons_self)
        rw [List.length_append, List.length_singleton] at r1
        rw [rsum_cons, List.map_append, mx_append]
        refine .inr ?_
        rcases ih fun q' h' => hq q' (List.mem_cons_of_mem _ h') with ⟨rfl, e⟩ | ⟨e1, e2⟩
        · rw [e]
          simp only [List.map_nil, mx, List.map_cons]
          omega
        · rw [e1]
          simp only [List.map_cons, mx]
          omega
    have e : rows (n + 1) d p b = (p, d, b) :: rsum n d p b (sbs d) := rfl
    rw [e]
    simp only [List.map_cons, mx, dep]
    rcases key (sbs d) h2 with ⟨e1, e2⟩ | ⟨e1, e2⟩
    · rw [e2, e1]; simp [mx]
    · rw [e1]; omega
/-! names that stand free -/
def Fr : Nat → D → Str → Prop
  | 0, _, _ => False
  | n + 1, d, x => d = .tup [.str "name", .str x] ∨ ∃ q ∈ sbs d, Fr n q.2 x ∧ D.str x ∉ bnd d q.1
theorem bnd_names {NN : List Str} {n : Nat} {d : D} (h : Tm NN (n + 1) d) (i : Nat) : ∃ zs : List Str, bnd d i = zs.map .str ∧ ∀ z ∈ zs, z ∈ NN := by
  obtain ⟨w, cs, es, rfl, hs, he⟩ := h
  obtain ⟨q1, q2, q3, _⟩ := shp_fn hs
  have at0 : ∀ {j : Nat}, cs[j]? = some 110 → ∃ x ∈ NN, es.getD j .non = .str x := fun {j} hc => by
    obtain ⟨e, he1, he2⟩ := he.at hc
    unfold El at he2
    simp at he2
    obtain ⟨x, hx, rfl⟩ := he2
    exact ⟨x, hx, by rw [List.getD_eq_getElem?_getD, he1]; rfl⟩
  have one : ∀ {j : Nat}, cs[j]? = some 110 → ∃ zs : List Str, [es.getD j .non] = zs.map D.str ∧ ∀ z ∈ zs, z ∈ NN := fun {j} hc => by
    obtain ⟨x, hx, e⟩ := at0 hc
    exact ⟨[x], by rw [e]; rfl, fun z hz => by rw [List.mem_singleton.mp hz]; exact hx⟩
  rw [bnd_eq]
  split
  · rename_i hh
    rcases hh.1 with e | e
    · exact one (by rw [q1 e]; rfl)
    · exact one (by rw [q2 e]; rfl)
  · split
    · rename_i hh
      rcases hh.2 with e | e
      · exact one (by rw [q3 hh.1, e]; rfl)
      · exact one (by rw [q3 hh.1, e]; rfl)
    · exact ⟨[], rfl, fun z hz => by simp at hz⟩
def ins (xs : List Str) (y : Str) : List Str := if y ∈ xs then xs else xs ++ [y]
theorem ins_mem {xs : List Str} {x y : Str} : x ∈ ins xs y ↔ x ∈ xs ∨ x = y := by
  unfold ins
  split
  · rename_i h
    exact ⟨.inl, fun q => q.elim id fun e => by rw [e]; exact h⟩
  · simp
theorem ins_nodup {xs : List Str} {y : Str} (h : xs.Nodup) : (ins xs y).Nodup := by
  unfold ins
  split
  · exact h
  · rename_i hy
    exact List.nodup_append.mpr ⟨h, by simp, fun a ha b hb => by rw [List.mem_singleton.mp hb]; rintro rfl; exact hy ha⟩
def fC (xs : List Str) : Cell := .dct (xs.map Sum.inr) (xs.map fun _ => D.bl true)
theorem put_ins (y : Str) : ∀ xs : List Str, Mp.putK (xs.map Sum.inr) (xs.map fun _ => D.bl true) (.inr y) (.bl true) = ((ins xs y).map Sum.inr, (ins xs y).map fun _ => D.bl true)
  | [] => rfl
  | x :: xs => by
    have ih := put_ins y xs
    simp only [List.map_cons, Mp.putK]
    by_cases h : x = y
    · subst h
      simp [ins]
    · have h' : ¬ y = x := fun e => h e.symm
      have hk : ¬ ((Sum.inr x : Key) = Sum.inr y) := by simpa using h
      rw [if_neg hk, ih]
      unfold ins
      by_cases hy : y ∈ xs
      · simp [hy]
      · simp [hy, h']
end Pk05
end
section -- O05
set_option Elab.async false
set_option linter.all false
set_option maxRecDepth 100000
set_option maxHeartbeats 4000000
namespace Pk05
open PySem L2 Mp
/-- the dict of free names: its cell, its names -/
def FC (NN : List Str) (n : Nat) (d : D) (m : Sto) (r : D) (m' : Sto) : Prop := ∃ (c : Nat) (xs : List Str), r = .ref c ∧ m'[c]? = some (.fdc (xs.map Sum.inr) (xs.map fun _ => D.bl true)) ∧ xs.Nodup ∧ (∀ x ∈ xs, x ∈ NN) ∧ (∀ x, x ∈ xs ↔ Fr n d x) ∧ Ap m m'
def body12 : Ss := (.c (.fr (.nm 4) (.seq (.call 12 (.c (.loc 3) .n))) (.c (.iff (.cmp .NotIn (.loc 4) (.call 11 (.c (.loc 0) (.c (.loc 2) .n)))) (.c (.asg (.sb (.loc 1) (.loc 4)) (.cst (.bl true))) .n) .n) .n)) .n)
def in12 : Ss := (.c (.iff (.cmp .NotIn (.loc 4) (.call 11 (.c (.loc 0) (.c (.loc 2) .n)))) (.c (.asg (.sb (.loc 1) (.loc 4)) (.cst (.bl true))) .n) .n) .n)
theorem b12_is : b12 = (.c (.iff (.cmp .Eq (.sub (.loc 0) (.cst (.int 0))) (.cst (.str "name"))) (.c (.ret (.lck (.dspc (.sub (.loc 0) (.cst (.int 1))) (.cst (.bl true))))) .n) .n) (.c (.asg (.nm 1) (.dsm [] [])) (.c (.fr (.tp (.c (.nm 2) (.c (.nm 3) .n))) (.seq (.call 7 (.c (.loc 0) .n))) body12) (.c (.ret (.lck (.loc 1))) .n)))) := rfl
/-- between the names of a part -/
def In12 (NN : List Str) (d : D) (c0 : Nat) (q : Nat × D) (xs : List Str) (ys : List Str) (m : Sto) (rest : List D) (r : Mp.Env) (m' : Sto) : Prop :=
  ∃ (done todo zs : List Str) (e4 : Option D), ys = done ++ todo ∧ rest = todo.map D.str ∧ r = [some d, some (.ref c0), some (.int (q.1 : Int)), some q.2, e4] ∧ m'[c0]? = some (fC zs) ∧ zs.Nodup ∧ (∀ x ∈ zs, x ∈ NN) ∧ (∀ x, x ∈ zs ↔ x ∈ xs ∨ (x ∈ done ∧ D.str x ∉ bnd d q.1)) ∧ Ap m m'
/-- between the parts -/
def Out12 (NN : List Str) (n : Nat) (d : D) (c0 : Nat) (m : Sto) (rest : List D) (r : Mp.Env) (m' : Sto) : Prop :=
  ∃ (done todo : List (Nat × D)) (zs : List Str) (e2 e3 e4 : Option D), sbs d = done ++ todo ∧ rest = todo.map subD ∧ r = [some d, some (.ref c0), e2, e3, e4] ∧ m'[c0]? = some (fC zs) ∧ zs.Nodup ∧ (∀ x ∈ zs, x ∈ NN) ∧ (∀ x, x ∈ zs ↔ ∃ q ∈ done, Fr n q.2 x ∧ D.str x ∉ bnd d q.1) ∧ Ap m m'
theorem inner12 {NN : List Str} (hN : NmOk NN) (hN6 : NN.length ≤ 60) {n : Nat} {d : D} (h : Tm NN (n + 1) d) {c0 lv : Nat} {q : Nat × D} {xs ys : List Str} {m : Sto} (hc0 : m.length ≤ c0) (hys : ∀ y ∈ ys, y ∈ NN) :
    ∀ x rest r m', In12 NN d c0 q xs ys m (x :: rest) r m' → wp (forB (run F C (lv + 1)) C (.nm 4) in12 x r) m' (loopQ (fun _ _ => False) (In12 NN d c0 q xs ys m rest)) := by
  intro x rest r m' hI
  unfold In12 at hI
  obtain ⟨done, todo, zs, e4, hy, hr, rfl, hcell, hnd, hin, hmem, ap⟩ := hI
  cases todo with
  | nil => cases hr
  | cons y todo =>
    obtain ⟨rfl, rfl⟩ := List.cons.inj hr
    obtain ⟨hsb, hsub⟩ := h.sbs
    obtain ⟨bs, eb, hb⟩ := bnd_names h q.1
    have rb := fun m => r_bound hsb q.1 lv m
    have hyN : y ∈ NN := hys y (by rw [hy]; simp)
    have hok : ∀ z ∈ NN, PyData.strOk z = true := fun z hz => by have := hN z hz; simp only [nmB, Bool.and_eq_true] at this; exact this.1
    have iw := fun m => in_words (m := m) (s := y) (ws := bs) (hok y hyN) (fun z hz => hok z (hb z hz))
    have hzl : zs.length < sizeLine := by
      have := List.Nodup.length_le_of_subset hnd (fun x hx => hin x hx)
      have := million'
      omega
    have mems : (D.str y ∈ bnd d q.1) ↔ y ∈ bs := by rw [eb]; simp
    rw [eb] at rb
    simp only [in12]
    by_cases hyb : y ∈ bs
    · have iw' : ∀ m, inD m (.str y) (.tup (bs.map D.str)) = some true := fun m => by rw [iw m]; simp [hyb]
      simp [eq_wp (rb _), iw', loopQ]
      unfold In12
      refine ⟨done ++ [y], todo, zs, some (.str y), by rw [hy]; simp, rfl, rfl, hcell, hnd, hin, fun x => ?_, ap⟩
      rw [hmem x]
      constructor
      · rintro (h1 | ⟨h1, h2⟩)
        · exact .inl h1
        · exact .inr ⟨by simp [h1], h2⟩
      · rintro (h1 | ⟨h1, h2⟩)
        · exact .inl h1
        · rcases List.mem_append.mp h1 with h1 | h1
          · exact .inr ⟨h1, h2⟩
          · rw [List.mem_singleton.mp h1] at h2
            exact absurd (mems.mpr hyb) h2
    · have iw' : ∀ m, inD m (.str y) (.tup (bs.map D.str)) = some false := fun m => by rw [iw m]; simp [hyb]
      simp [eq_wp (rb _), iw', loopQ]
      rw [wp_setK (q := .inr y) hcell rfl (by simpa using hzl), put_ins]
      have hlc : c0 < m'.length := (List.getElem?_eq_some_iff.mp hcell).1
      show In12 NN d c0 q xs ys m _ _ _
      unfold In12
      refine ⟨done ++ [y], todo, ins zs y, some (.str y), by rw [hy]; simp, rfl, rfl, by rw [List.getElem?_set_self hlc]; rfl, ins_nodup hnd, fun x hx => ?_, fun x => ?_, ap.set hc0 _⟩
      · rcases ins_mem.mp hx with hx | rfl
        · exact hin x hx
        · exact hyN
      · rw [ins_mem, hmem x]
        constructor
        · rintro ((h1 | ⟨h1, h2⟩) | rfl)
          · exact .inl h1
          · exact .inr ⟨by simp [h1], h2⟩
          · exact .inr ⟨by simp, fun z => hyb (mems.mp z)⟩
        · rintro (h1 | ⟨h1, h2⟩)
          · exact .inl (.inl h1)
          · rcases List.mem_append.mp h1 with h1 | h1
            · exact .inl (.inr ⟨h1, h2⟩)
            · exact .inr (List.mem_singleton.mp h1)
theorem loopF {Q : Fl → Sto → Prop} {P : Mp.Env → Sto → Prop} {f : Fl} {m : Sto} (h : loopQ (fun _ _ => False) P f m) : loopQ Q P f m := by
  cases f <;> first | exact h | exact h.elim
theorem r_free {NN : List Str} (hN : NmOk NN) (hN6 : NN.length ≤ 60) : ∀ (n : Nat) (d : D) (lv : Nat) (m : Sto), Tm NN n d → n ≤ lv → wp (run F C (lv + 1) 12 [d]) m fun r m' => FC NN n d m r m'
  | 0, d, lv, m, h, hl => h.elim
  | n + 1, d, lv, m, h, hl => by
    obtain ⟨lv, rfl⟩ : ∃ a, lv = a + 1 := ⟨lv - 1, by omega⟩
    obtain ⟨hsb, hsub⟩ := h.sbs
    have h0 := h
    obtain ⟨w, cs, es, rfl, hs, he⟩ := h
    obtain ⟨h1, h2, h3, h4⟩ := shp_ok hs
    obtain ⟨n1, n0⟩ := e_w h3 ok_fn.2.2.2
    obtain ⟨_, _, _, q4⟩ := shp_fn hs
    refine wp_run (g := f12) rfl rfl ?_
    simp only [f12, b12_is]
    have at_ : ∀ c : Cell, (m ++ [c])[m.length]? = some c := fun c => by simp
    by_cases hw : w = "name"
    · have e1 := n1 hw
      have hcs := q4 hw
      subst hcs
      obtain ⟨e, r, rfl, el, hr⟩ := he
      simp only [Els] at hr
      subst hr
      unfold El at el
      simp at el
      obtain ⟨x, hx, rfl⟩ := el
      simp [e1, dKey]
      rw [wp_lck (at_ _)]
      unfold FC
      refine ⟨m.length, [x], rfl, by rw [set_last]; exact at_ _, by simp, fun z hz => by rw [List.mem_singleton.mp hz]; exact hx, fun z => ?_, by rw [set_last]; exact Ap.push _⟩
      have es : sbs (.tup [.str w, .str x]) = [] := by simp only [sbs, shp_look hs]; rfl
      have es' : sbs (.tup [.str "name", .str x]) = [] := by rw [← hw]; exact es
      simp only [List.mem_singleton, Fr, hw, es']
      simp
      exact eq_comm
    · have e1 := n0 hw
      simp [e1, -thenS_nx]
      rw [thenS_nx]
      simp [-thenS_nx]
      rw [thenS_nx]
      simp [eq_wp (r_sub hsb lv _), -thenS_nx]
      refine wp_forL (Out12 NN n (.tup (.str w :: es)) m.length m) _ _ _ ?_ ?_ ?_
      · unfold Out12
        exact ⟨[], sbs _, [], none, none, none, rfl, rfl, rfl, by rw [at_]; rfl, .nil, fun x hx => by simp at hx, fun x => by simp, Ap.push _⟩
      · intro x rest r m' hI
        unfold Out12 at hI
        obtain ⟨done, todo, zs, e2, e3, e4, hd, hr, rfl, hcell, hnd, hin, hmem, ap⟩ := hI
        cases todo with
        | nil => cases hr
        | cons q todo =>
          obtain ⟨rfl, rfl⟩ := List.cons.inj hr
          have hq : q ∈ sbs (.tup (.str w :: es)) := by rw [hd]; simp
          have ih := r_free hN hN6 n q.2 lv m' (hsub q hq) (by omega)
          simp only [body12]
          simp [subD, Tgs.len, -thenS_nx]
          refine wp_mono ih fun r m1 hF => ?_
          unfold FC at hF
          obtain ⟨c, ys, rfl, hc, hnd', hin', hmem', ap1⟩ := hF
          rw [sq_fdc hc]
          simp only [Option.some.injEq, exists_eq_left', forW_its]
          have em : (ys.map Sum.inr).map keyD = ys.map D.str := by rw [List.map_map]; rfl
          rw [em]
          show wp (forL (forB (run F C (lv + 1)) C (.nm 4) in12) _ _) m1 _
          have hcell1 := ap1.at hcell
          refine wp_forL (In12 NN (.tup (.str w :: es)) m.length q zs ys m) _ _ _ ?_ (fun x rest r m' h => wp_mono (inner12 hN hN6 h0 (Nat.le_refl _) hin' x rest r m' h) fun f m2 q => loopF q) ?_
          · unfold In12
            exact ⟨[], ys, zs, e4, rfl, rfl, rfl, hcell1, hnd, hin, fun x => by simp, ap.trans ap1⟩
          · intro r m2 hI
            unfold In12 at hI
            obtain ⟨done', todo', zs', e4', hy, hr', rfl, hcell', hnd2, hin2, hmem2, ap2⟩ := hI
            have : todo' = [] := by cases todo' with
              | nil => rfl
              | cons _ _ => cases hr'
            subst this
            rw [List.append_nil] at hy
            subst hy
            simp [loopQ]
            show Out12 NN n _ m.length m _ _ _
            unfold Out12
            refine ⟨done ++ [q], todo, zs', _, _, _, by rw [hd]; simp, rfl, rfl, hcell', hnd2, hin2, fun x => ?_, ap2⟩
            rw [hmem2 x, hmem x, hmem' x]
            constructor
            · rintro (⟨q', h1, h2⟩ | h1)
              · exact ⟨q', by simp [h1], h2⟩
              · exact ⟨q, by simp, h1⟩
            · rintro ⟨q', h1, h2⟩
              rcases List.mem_append.mp h1 with h1 | h1
              · exact .inl ⟨q', h1, h2⟩
              · rw [List.mem_singleton.mp h1] at h2
                exact .inr h2
      · intro r m' hI
        unfold Out12 at hI
        obtain ⟨done, todo, zs, e2, e3, e4, hd, hr, rfl, hcell, hnd, hin, hmem, ap⟩ := hI
        have : todo = [] := by cases todo with
          | nil => rfl
          | cons _ _ => cases hr
        subst this
        rw [List.append_nil] at hd
        simp
        rw [wp_lck hcell]
        unfold FC
        have hlc := (List.getElem?_eq_some_iff.mp hcell).1
        refine ⟨m.length, zs, rfl, by rw [List.getElem?_set_self hlc], hnd, hin, fun x => ?_, ap.set (Nat.le_refl _) _⟩
        rw [hmem x, ← hd]
        simp only [Fr]
        constructor
        · exact .inr
        · rintro (h | h)
          · simp at h
            exact absurd h.1 hw
          · exact h
end Pk05
end
section -- P05
set_option Elab.async false
set_option linter.all false
set_option maxRecDepth 100000
set_option maxHeartbeats 4000000
namespace Pk05
open PySem L2 Mp
theorem keysS_map : ∀ xs : List Str, keysS (xs.map Sum.inr) = some xs
  | [] => rfl
  | x :: xs => by simp only [List.map_cons, keysS, keysS_map xs, Option.map_some]
theorem strsOf_map : ∀ xs : List Str, strsOf (xs.map D.str) = some xs
  | [] => rfl
  | x :: xs => by simp only [List.map_cons, strsOf, strsOf_map xs, Option.map_some]
theorem so_fdc {m : Sto} {c : Nat} {xs : List Str} {vs : List D} (h : m[c]? = some (.fdc (xs.map Sum.inr) vs)) (hl : xs.length < 64) : bltD m .sorted [.ref c] = some (.lst ((sortS xs).map .str)) := by
  show (match m[c]? with
    | some (.fdc ks _) => (match keysS ks with
      | some xs => if ks.length < 64 then some (D.lst ((sortS xs).map .str)) else none
      | none => none)
    | some (.lst ys) => (match strsOf ys with
      | some xs => if xs.length < 64 then some (D.lst ((sortS xs).map .str)) else none
      | none => none)
    | _ => none) = _
  rw [h]
  simp only [keysS_map, List.length_map, if_pos hl]
theorem so_lst {m : Sto} {c : Nat} {xs : List Str} (h : m[c]? = some (.lst (xs.map D.str))) (hl : xs.length < 64) : bltD m .sorted [.ref c] = some (.lst ((sortS xs).map .str)) := by
  show (match m[c]? with
    | some (.fdc ks _) => (match keysS ks with
      | some xs => if ks.length < 64 then some (D.lst ((sortS xs).map .str)) else none
      | none => none)
    | some (.lst ys) => (match strsOf ys with
      | some xs => if xs.length < 64 then some (D.lst ((sortS xs).map .str)) else none
      | none => none)
    | _ => none) = _
  rw [h]
  simp only [strsOf_map, if_pos hl]
theorem it_lst {m : Sto} {xs : List D} : items m (.lst xs) = some xs := rfl
/-- what is told of free names -/
def FT (NN : List Str) (n : Nat) (d : D) (m : Sto) (r : D) (m' : Sto) : Prop := ∃ xs : List Str, r = .tup ((sortS xs).map .str) ∧ xs.Nodup ∧ (∀ x ∈ xs, x ∈ NN) ∧ (∀ x, x ∈ xs ↔ Fr n d x) ∧ Ap m m'
theorem FT.same {NN : List Str} {n n' : Nat} {d : D} {m m' m2 m2' : Sto} {r r' : D} (h : FT NN n d m r m') (k : FT NN n d m2 r' m2') : r = r' := by
  obtain ⟨xs, rfl, h1, _, h2, _⟩ := h
  obtain ⟨ys, rfl, k1, _, k2, _⟩ := k
  rw [sort_same h1 k1 fun x => (h2 x).trans (k2 x).symm]
theorem r_freenames {NN : List Str} (hN : NmOk NN) (hN6 : NN.length ≤ 60) {n lv : Nat} {d : D} (h : Tm NN n d) (hn : n ≤ 100) (hl : 222 ≤ lv) (m : Sto) : wp (run F C lv 16 [d]) m fun r m' => FT NN n d m r m' := by
  obtain ⟨lv, rfl⟩ : ∃ a, lv = a + 2 := ⟨lv - 2, by omega⟩
  have rc := fun m => r_check hN h hn (lv := lv + 1) (by omega) m
  refine wp_run (g := f16) rfl rfl ?_
  simp [f16, b16, eq_wp (rc _)]
  refine wp_mono (r_free hN hN6 n d lv m h (by omega)) fun r m1 hF => ?_
  unfold FC at hF
  obtain ⟨c, xs, rfl, hc, hnd, hin, hmem, ap⟩ := hF
  have hl64 : xs.length < 64 := by
    have := List.Nodup.length_le_of_subset hnd fun x hx => hin x hx
    omega
  simp [so_fdc hc hl64, it_lst]
  unfold FT
  exact ⟨xs, rfl, hnd, hin, hmem, ap⟩
/-! the law's own -/
def RowOk (NN : List Str) (r : Rw) : Prop := (∃ k, Tm NN (k + 1) r.2.1) ∧ ∃ zs : List Str, r.2.2 = zs.map .str ∧ ∀ z ∈ zs, z ∈ NN
theorem rows_ok {NN : List Str} : ∀ (n : Nat) (d : D) (p : List Nat) (b : List D), Tm NN n d → (∃ zs : List Str, b = zs.map D.str ∧ ∀ z ∈ zs, z ∈ NN) → ∀ r ∈ rows n d p b, RowOk NN r
  | 0, d, p, b, h, hb, r, hr => h.elim
  | n + 1, d, p, b, h, hb, r, hr => by
    have e : rows (n + 1) d p b = (p, d, b) :: rsum n d p b (sbs d) := rfl
    rw [e] at hr
    rcases List.mem_cons.mp hr with rfl | hr
    · exact ⟨⟨n, h⟩, hb⟩
    · unfold rsum at hr
      obtain ⟨l, hl, hr⟩ := List.mem_flatten.mp hr
      obtain ⟨q, hq, rfl⟩ := List.mem_map.mp hl
      obtain ⟨zs, hz, hz2⟩ := hb
      obtain ⟨bs, eb, hb2⟩ := bnd_names h q.1
      refine rows_ok n q.2 _ _ (h.sbs.2 q hq) ⟨zs ++ bs, by rw [hz, eb, List.map_append], fun z h => ?_⟩ r hr
      rcases List.mem_append.mp h with h | h
      · exact hz2 z h
      · exact hb2 z h
def FrR (r : Rw) (x : Str) : Prop := r.2.1 = .tup [.str "name", .str x] ∧ D.str x ∉ r.2.2
theorem rows_free {NN : List Str} : ∀ (n : Nat) (d : D) (p : List Nat) (b : List D) (x : Str), Tm NN n d → ((∃ r ∈ rows n d p b, FrR r x) ↔ Fr n d x ∧ D.str x ∉ b)
  | 0, d, p, b, x, h => h.elim
  | n + 1, d, p, b, x, h => by
    have e : rows (n + 1) d p b = (p, d, b) :: rsum n d p b (sbs d) := rfl
    rw [e]
    have ih := fun q hq => rows_free n q.2 (p ++ [q.1]) (b ++ bnd d q.1) x (h.sbs.2 q hq)
    simp only [Fr]
    constructor
    · rintro ⟨r, hr, hx⟩
      rcases List.mem_cons.mp hr with rfl | hr
      · exact ⟨.inl hx.1, hx.2⟩
      · unfold rsum at hr
        obtain ⟨l, hl, hr⟩ := List.mem_flatten.mp hr
        obtain ⟨q, hq, rfl⟩ := List.mem_map.mp hl
        obtain ⟨h1, h2⟩ := (ih q hq).mp ⟨r, hr, hx⟩
        rw [List.mem_append] at h2
        exact ⟨.inr ⟨q, hq, h1, fun z => h2 (.inr z)⟩, fun z => h2 (.inl z)⟩
    · rintro ⟨hd | ⟨q, hq, h1, h2⟩, hb⟩
      · exact ⟨(p, d, b), List.mem_cons_self, hd, hb⟩
      · obtain ⟨r, hr, hx⟩ := (ih q hq).mpr ⟨h1, by rw [List.mem_append]; rintro (z | z); exact hb z; exact h2 z⟩
        exact ⟨r, List.mem_cons_of_mem _ (List.mem_flatten.mpr ⟨_, List.mem_map_of_mem hq, hr⟩), hx⟩
def In33 (NN : List Str) (rs : List Rw) (c0 : Nat) (m : Sto) (rest : List D) (r : Mp.Env) (m' : Sto) : Prop :=
  ∃ (done todo : List Rw) (zs : List Str) (e2 e3 e4 : Option D), rs = done ++ todo ∧ rest = todo.map rowD ∧ r = [some (.lst (rs.map rowD)), some (.ref c0), e2, e3, e4] ∧ m'[c0]? = some (.lst (zs.map D.str)) ∧ zs.Nodup ∧ (∀ x ∈ zs, x ∈ NN) ∧ (∀ x, x ∈ zs ↔ ∃ q ∈ done, FrR q x) ∧ Ap m m'
theorem in_ref {m : Sto} {c : Nat} {s : Str} {ws : List Str} (h : m[c]? = some (.lst (ws.map D.str))) (ok : PyData.strOk s = true) (hw : ∀ w ∈ ws, PyData.strOk w = true) : inD m (.str s) (.ref c) = some (ws.contains s) := by
  have := in_words (m := m) ok hw
  show (items m (.ref c)).bind (inL (.str s)) = _
  have e : items m (.ref c) = some (ws.map D.str) := by
    show (match m[c]? with
      | some (.lst xs) => some xs
      | _ => none) = _
    rw [h]
  rw [e]
  exact this
theorem r_lfree {NN : List Str} (hN : NmOk NN) (hN6 : NN.length ≤ 60) {rs : List Rw} (hrs : ∀ r ∈ rs, RowOk NN r) (lv : Nat) (m : Sto) : wp (run F C (lv + 1) 33 [.lst (rs.map rowD)]) m fun r m' => ∃ xs : List Str, r = .tup ((sortS xs).map .str) ∧ xs.Nodup ∧ (∀ x ∈ xs, x ∈ NN) ∧ (∀ x, x ∈ xs ↔ ∃ q ∈ rs, FrR q x) ∧ Ap m m' := by
  have s0 := size_0
  have at_ : ∀ c : Cell, (m ++ [c])[m.length]? = some c := fun c => by simp
  have hok : ∀ z ∈ NN, PyData.strOk z = true := fun z hz => by have := hN z hz; simp only [nmB, Bool.and_eq_true] at this; exact this.1
  refine wp_run (g := f33) rfl rfl ?_
  simp [f33, b33, s0, -thenS_nx]
  rw [thenS_nx]
  simp [-thenS_nx]
  refine wp_forL (In33 NN rs m.length m) _ _ _ ?_ ?_ ?_
  · unfold In33
    exact ⟨[], rs, [], none, none, none, rfl, rfl, rfl, by rw [at_]; rfl, .nil, fun x hx => by simp at hx, fun x => by simp, Ap.push _⟩
  · intro x rest r m' hI
    unfold In33 at hI
    obtain ⟨done, todo, zs, e2, e3, e4, hd, hr, rfl, hcell, hnd, hin, hmem, ap⟩ := hI
    cases todo with
    | nil => cases hr
    | cons q todo =>
      obtain ⟨rfl, rfl⟩ := List.cons.inj hr
      obtain ⟨⟨k, tm⟩, bs, eb, hb⟩ := hrs q (by rw [hd]; simp)
      obtain ⟨w, cs, es, ed, hs, he⟩ := tm
      obtain ⟨h1, h2, h3, h4⟩ := shp_ok hs
      obtain ⟨n1, n0⟩ := e_w h3 ok_fn.2.2.2
      obtain ⟨_, _, _, q4⟩ := shp_fn hs
      obtain ⟨qp, qd, qb⟩ := q
      have ed : qd = .tup (.str w :: es) := ed
      have eb : qb = bs.map D.str := eb
      have go : ∀ zs', m'[m.length]? = some (.lst (zs'.map D.str)) → zs' = zs → (∀ x, FrR (qp, qd, qb) x → x ∈ zs) → ∀ e2 e3 e4, In33 NN rs m.length m (todo.map rowD) [some (.lst (rs.map rowD)), some (.ref m.length), e2, e3, e4] m' := fun zs' hz ez hq e2 e3 e4 => by
        unfold In33
        refine ⟨done ++ [(qp, qd, qb)], todo, zs, e2, e3, e4, by rw [hd]; simp, rfl, rfl, hcell, hnd, hin, fun x => ?_, ap⟩
        rw [hmem x]
        constructor
        · rintro ⟨q', a, b⟩; exact ⟨q', by simp [a], b⟩
        · rintro ⟨q', a, b⟩
          rcases List.mem_append.mp a with a | a
          · exact ⟨q', a, b⟩
          · rw [List.mem_singleton.mp a] at b
            exact (hmem x).mp (hq x b)
      by_cases hw : w = "name"
      · have e1 := n1 hw
        have hcs := q4 hw
        subst hcs
        obtain ⟨e, r, rfl, el, hr⟩ := he
        simp only [Els] at hr
        subst hr
        unfold El at el
        simp at el
        obtain ⟨x, hx, rfl⟩ := el
        have i1 : ∀ m, inD m (.str x) (.tup (bs.map D.str)) = some (bs.contains x) := fun m => in_words (hok x hx) fun z hz => hok z (hb z hz)
        have i2 : inD m' (.str x) (.ref m.length) = some (zs.contains x) := in_ref hcell (hok x hx) fun z hz => hok z (hin z hz)
        have hzl : (zs.map D.str).length < sizeLine := by
          have := List.Nodup.length_le_of_subset hnd (fun x hx => hin x hx)
          have := million'
          simp; omega
        have frx : ∀ y, FrR (qp, qd, qb) y ↔ y = x ∧ x ∉ bs := fun y => by
          unfold FrR
          rw [ed, eb, hw]
          simp
          constructor
          · rintro ⟨rfl, h⟩; exact ⟨rfl, h⟩
          · rintro ⟨rfl, h⟩; exact ⟨rfl, h⟩
        by_cases c1 : x ∈ bs
        · simp only [List.contains_eq_mem, decide_eq_true c1] at i1
          simp [rowD, pD, Tgs.len, ed, eb, e1, i1, loopQ]
          have := go zs hcell rfl (fun y hy => absurd c1 ((frx y).mp hy).2) (some (pD qp)) (some qd) (some (.tup qb))
          rw [ed, eb] at this
          exact this
        · simp only [List.contains_eq_mem, decide_eq_false c1] at i1
          by_cases c2 : x ∈ zs
          · simp only [List.contains_eq_mem, decide_eq_true c2] at i2
            simp [rowD, pD, Tgs.len, ed, eb, e1, i1, i2, loopQ]
            have := go zs hcell rfl (fun y hy => by rw [((frx y).mp hy).1]; exact c2) (some (pD qp)) (some qd) (some (.tup qb))
            rw [ed, eb] at this
            exact this
          · simp only [List.contains_eq_mem, decide_eq_false c2] at i2
            simp [rowD, pD, Tgs.len, ed, eb, e1, i1, i2, loopQ, r_lst hcell]
            rw [m_app hcell hzl]
            have hlc : m.length < m'.length := (List.getElem?_eq_some_iff.mp hcell).1
            show In33 NN rs m.length m _ _ _
            unfold In33
            refine ⟨done ++ [(qp, qd, qb)], todo, zs ++ [x], some (pD qp), some qd, some (.tup qb), by rw [hd]; simp, rfl, by rw [ed, eb]; rfl, by rw [List.getElem?_set_self hlc]; simp, ?_, ?_, fun y => ?_, ap.set (Nat.le_refl _) _⟩
            · exact List.nodup_append.mpr ⟨hnd, by simp, fun a ha b hb => by rw [List.mem_singleton.mp hb]; rintro rfl; exact c2 ha⟩
            · intro y hy
              rcases List.mem_append.mp hy with h | h
              · exact hin y h
              · rw [List.mem_singleton.mp h]; exact hx
            · rw [List.mem_append, hmem y, List.mem_singleton]
              constructor
              · rintro (⟨q', a, b⟩ | rfl)
                · exact ⟨q', by simp [a], b⟩
                · exact ⟨_, by simp, (frx y).mpr ⟨rfl, c1⟩⟩
              · rintro ⟨q', a, b⟩
                rcases List.mem_append.mp a with a | a
                · exact .inl ⟨q', a, b⟩
                · rw [List.mem_singleton.mp a] at b
                  exact .inr ((frx y).mp b).1
      · have e1 := n0 hw
        simp [rowD, pD, Tgs.len, ed, eb, e1, loopQ]
        have := go zs hcell rfl (fun y hy => by have := hy.1; simp [ed] at this; exact absurd this.1 hw) (some (pD qp)) (some qd) (some (.tup qb))
        rw [ed, eb] at this
        exact this
  · intro r m' hI
    unfold In33 at hI
    obtain ⟨done, todo, zs, e2, e3, e4, hd, hr, rfl, hcell, hnd, hin, hmem, ap⟩ := hI
    have : todo = [] := by cases todo with
      | nil => rfl
      | cons _ _ => cases hr
    subst this
    rw [List.append_nil] at hd
    subst hd
    have hl64 : zs.length < 64 := by
      have := List.Nodup.length_le_of_subset hnd fun x hx => hin x hx
      omega
    simp [so_lst hcell hl64, it_lst]
    exact ⟨zs, rfl, hnd, hin, fun x => by rw [hmem x]; simp, ap⟩
end Pk05
end
section -- Q05
set_option Elab.async false
set_option linter.all false
set_option maxRecDepth 100000
set_option maxHeartbeats 4000000
namespace Pk05
open PySem L2 Mp
def isI : D → Nat → Bool
  | .int k, i => (i : Int) == k
  | _, _ => false
def isW : D → Bool
  | .int _ => true
  | _ => false
/-- the subterms at an index -/
def fnd (d x : D) : List D := (sbs d).filterMap fun q => if isI x q.1 then some q.2 else none
/-- the part that a path leads to -/
def prt : D → List D → List D
  | d, [] => [d]
  | d, x :: xs => match fnd d x with
    | e :: _ => prt e xs
    | [] => []
theorem prt_nil {d : D} : prt d [] = [d] := rfl
theorem prt_c {d x : D} {xs : List D} {e : D} {r : List D} (h : fnd d x = e :: r) : prt d (x :: xs) = prt e xs := by simp only [prt, h]
theorem prt_n {d x : D} {xs : List D} (h : fnd d x = []) : prt d (x :: xs) = [] := by simp only [prt, h]
theorem r_whole (x : D) (n : Nat) (m : Sto) : run F C (n + 1) 0 [x] m = .ok (.bl (isW x)) m := by
  refine wp_eq (wp_run (g := f0) rfl rfl ?_)
  cases x <;> simp [f0, b0, isiD, isW]
theorem fnd_mem {d x e : D} (h : e ∈ fnd d x) : ∃ q ∈ sbs d, q.2 = e ∧ isI x q.1 = true := by
  unfold fnd at h
  obtain ⟨q, hq, h⟩ := List.mem_filterMap.mp h
  refine ⟨q, hq, ?_⟩
  split at h
  · rename_i hi; cases h; exact ⟨rfl, hi⟩
  · cases h
def lc10 (lv : Nat) (r : Mp.Env) : D → M (Option D) := lcO (run F C lv) C (.tp (.c (.nm 5) (.c (.nm 6) .n))) (.c (.and (.c (.call 0 (.c (.loc 3) .n)) (.c (.cmp .Eq (.loc 5) (.loc 3)) .n))) .n) (.loc 6) r
theorem r_partby {NN : List Str} (d : D) (ps : List D) (lv : Nat) (m : Sto) {n : Nat} (h : Tm NN (n + 1) d) : run F C (lv + 2) 10 [d, .tup ps] m = .ok (.lst (prt d ps)) m := by
  have s0 := size_0
  have s1 := size_1
  have mil := million'
  refine wp_eq (wp_run (g := f10) rfl rfl ?_)
  simp [f10, b10, -thenS_nx]
  rw [thenS_nx]
  simp [-thenS_nx]
  refine wp_forL (fun rest r m' => m' = m ∧ ∃ (k : Nat) (here : D) (e3 e4 e5 e6 : Option D), r = [some d, some (.tup ps), some here, e3, e4, e5, e6] ∧ Tm NN (k + 1) here ∧ prt here rest = prt d ps) _ _ _ ⟨rfl, n, d, none, none, none, none, rfl, h, rfl⟩ ?_ ?_
  · rintro x rest r m' ⟨rfl, k, here, e3, e4, e5, e6, rfl, tm, hp⟩
    obtain ⟨hsb, hsub⟩ := tm.sbs
    have key := lcL_fmf (m := m') (h := subD) (k := id) (g := fun q => if isI x q.1 then some q.2 else none) (one := lcO (run F C (lv + 1)) C (.tp (.c (.nm 5) (.c (.nm 6) .n))) (.c (.and (.c (.call 0 (.c (.loc 3) .n)) (.c (.cmp .Eq (.loc 5) (.loc 3)) .n))) .n) (.loc 6) [some d, some (.tup ps), some here, some x, e4, e5, e6]) (ps := sbs here) fun q hq => by
      refine wp_eq ?_
      cases x with
      | int j =>
        simp [subD, Tgs.len, Tg.slots, Tgs.slots, wipeD, eq_wp (r_whole _ _ _), isW, isI]
        by_cases hj : (q.1 : Int) = j
        · simp [hj]
        · simp [hj]
      | _ => simp [subD, Tgs.len, Tg.slots, Tgs.slots, wipeD, eq_wp (r_whole _ _ _), isW, isI]
    rw [List.map_id] at key
    change lcL _ _ _ = R.ok (fnd here x) m' at key
    have hfl : (fnd here x).length ≤ sizeLine := by
      have h1 := List.length_filterMap_le (fun q : Nat × D => if isI x q.1 then some q.2 else none) (sbs here)
      have h2 := hsb.len
      unfold fnd
      omega
    cases hf : fnd here x with
    | nil =>
      rw [hf] at key
      rw [prt_n hf] at hp
      simp [eq_wp (r_sub hsb lv _), eq_wp key, s0, g_nil, loopQ, ← hp, e_nil]
    | cons e r =>
      rw [hf] at key hfl
      rw [prt_c hf] at hp
      obtain ⟨q, hq, rfl, _⟩ := fnd_mem (d := here) (x := x) (e := e) (by rw [hf]; exact List.mem_cons_self)
      have tq := hsub q hq
      have hk : ∃ k', k = k' + 1 := by
        cases k with
        | zero => exact tq.elim
        | succ k => exact ⟨k, rfl⟩
      obtain ⟨k', rfl⟩ := hk
      have hfl' : r.length + 1 ≤ sizeLine := hfl
      simp [eq_wp (r_sub hsb lv _), eq_wp key, s0, e_nil, loopQ, hfl']
      exact ⟨⟨k', tq⟩, hp⟩
  · rintro r m' ⟨rfl, k, here, e3, e4, e5, e6, rfl, tm, hp⟩
    rw [prt_nil] at hp
    simp [s1, ← hp]
end Pk05
end
section -- R05
set_option Elab.async false
set_option linter.all false
set_option maxRecDepth 100000
set_option maxHeartbeats 4000000
namespace Pk05
open PySem L2 Mp
/-! what can be laid beside others -/
mutual
def lay : D → Prop
  | .non => True
  | .bl _ => True
  | .int _ => True
  | .str x => PyData.strOk x = true
  | .tup xs => layL xs
  | .lst xs => layL xs
  | _ => False
def layL : List D → Prop
  | [] => True
  | x :: xs => lay x ∧ layL xs
end
mutual
theorem lay_py : ∀ d : D, lay d → ∃ p, toPy d = some p ∧ p.canLay0 = true
  | .non, _ => ⟨.none, rfl, rfl⟩
  | .bl b, _ => ⟨.bool b, rfl, rfl⟩
  | .int i, _ => ⟨.int i, rfl, rfl⟩
  | .str x, h => ⟨.str x, rfl, by simpa only [lay, PyData.canLay0] using h⟩
  | .tup xs, h => by
    simp only [lay] at h
    obtain ⟨ps, e, k⟩ := layL_py xs h
    exact ⟨.tuple ps, by simp only [toPy, e, Option.map_some], by simpa only [PyData.canLay0] using k⟩
  | .lst xs, h => by
    simp only [lay] at h
    obtain ⟨ps, e, k⟩ := layL_py xs h
    exact ⟨.list ps, by simp only [toPy, e, Option.map_some], by simpa only [PyData.canLay0] using k⟩
  | .dct _ _, h => by simp only [lay] at h
  | .wdc _ _, h => by simp only [lay] at h
  | .ref _, h => by simp only [lay] at h
theorem layL_py : ∀ ds : List D, layL ds → ∃ ps, toPyL ds = some ps ∧ PyData.canLayAll0 ps = true
  | [], _ => ⟨[], rfl, rfl⟩
  | d :: ds, h => by
    simp only [layL] at h
    obtain ⟨p, e, k⟩ := lay_py d h.1
    obtain ⟨ps, e2, k2⟩ := layL_py ds h.2
    exact ⟨p :: ps, by simp only [toPyL, e, e2], by simp only [PyData.canLayAll0, k, k2, Bool.and_self]⟩
end
theorem lay_kd : ∀ k : Kg, lay k.d
  | .unit => by simp only [Kg.d, lay, layL]; exact ⟨ok_words _ (by simp), trivial⟩
  | .num => by simp only [Kg.d, lay, layL]; exact ⟨ok_words _ (by simp), trivial⟩
  | .var v => by simp only [Kg.d, lay, layL]; exact ⟨ok_words _ (by simp), ok_words _ (by cases v <;> simp [Vw.s]), trivial⟩
  | .bin w x y => by simp only [Kg.d, lay, layL]; exact ⟨ok_words _ (by cases w <;> simp [Bw.s]), lay_kd x, lay_kd y, trivial⟩
  | .list x => by simp only [Kg.d, lay, layL]; exact ⟨ok_words _ (by simp), lay_kd x, trivial⟩
theorem nm_ok {NN : List Str} (hN : NmOk NN) : ∀ z ∈ NN, PyData.strOk z = true := fun z hz => by have := hN z hz; simp only [nmB, Bool.and_eq_true] at this; exact this.1
theorem lay_tm {NN : List Str} (hN : NmOk NN) : ∀ (n : Nat) (d : D), Tm NN n d → lay d
  | 0, d, h => h.elim
  | n + 1, d, h => by
    obtain ⟨w, cs, es, rfl, hs, he⟩ := h
    obtain ⟨h1, h2, h3, h4⟩ := shp_ok hs
    simp only [lay, layL]
    refine ⟨h3, ?_⟩
    clear h1 h2 h4 hs
    induction cs generalizing es with
    | nil => simp only [Els] at he; subst he; simp only [layL]
    | cons c cs ih =>
      obtain ⟨e, r, rfl, el, hr⟩ := he
      simp only [layL]
      refine ⟨?_, ih r hr⟩
      unfold El at el
      split at el
      · exact lay_tm hN n e el
      · split at el
        · obtain ⟨x, hx, rfl⟩ := el; simp only [lay]; exact nm_ok hN x hx
        · split at el
          · obtain ⟨k, rfl, _⟩ := el; exact lay_kd k
          · split at el
            · rcases el with rfl | rfl | rfl <;> simp only [lay] <;> decide +kernel
            · obtain ⟨i, rfl, _⟩ := el; simp only [lay]
theorem cne_lst {m : Sto} {e : D} (h : lay e) : cmpD m .NotEq (.lst [e]) (.lst []) = some true := by
  obtain ⟨p, h1, h2⟩ := lay_py e h
  have : eqG (.lst [e]) (.lst []) = some false := by
    simp only [eqG, toPy, toPyL, h1, Option.map_some, PyData.canLay0, PyData.canLayAll0, h2, PyData.depth, PyData.depthAll, PyData.eqv, PyData.eqvAll]
    have : min (max p.depth 0 + 1) (0 + 1) ≤ 190 := by omega
    simp [this]
  rw [c_ne, this]
  rfl
theorem cne_tup {m : Sto} {xs : List D} (h : layL xs) : cmpD m .NotEq (.tup xs) (.tup []) = some (!xs.isEmpty) := by
  obtain ⟨p, h1, h2⟩ := layL_py xs h
  have : eqG (.tup xs) (.tup []) = some xs.isEmpty := by
    simp only [eqG, toPy, toPyL, h1, Option.map_some, PyData.canLay0, PyData.canLayAll0, h2, PyData.depth, PyData.depthAll]
    have : min (PyData.depthAll p + 1) (0 + 1) ≤ 190 := by omega
    simp only [this, decide_true, Bool.and_self, if_true, PyData.eqv]
    cases xs with
    | nil =>
      simp only [toPyL, Option.some.injEq] at h1
      subst h1; rfl
    | cons x xs =>
      simp only [toPyL] at h1
      split at h1
      · cases h1; rfl
      · cases h1
  rw [c_ne, this]
  rfl
theorem fnd_yes {w : Str} {cs : List Nat} {es : List D} {j : Nat} {e : D} (hs : (w, cs) ∈ shp) (hc : cs[j]? = some 116) (he : es[j]? = some e) : ∃ r, fnd (.tup (.str w :: es)) (.int ((j : Int) + 1)) = e :: r := by
  have esb : sbs (.tup (.str w :: es)) = sb 1 cs es := by simp only [sbs, shp_look hs]
  have hm := sb_mem (i := 1) hc he
  have hf : e ∈ fnd (.tup (.str w :: es)) (.int ((j : Int) + 1)) := by
    unfold fnd
    rw [esb]
    refine List.mem_filterMap.mpr ⟨_, hm, ?_⟩
    have : ((1 + j : Nat) : Int) = (j : Int) + 1 := by omega
    simp [isI, this]
  cases h : fnd (.tup (.str w :: es)) (.int ((j : Int) + 1)) with
  | nil => rw [h] at hf; simp at hf
  | cons e' r =>
    obtain ⟨q, hq, rfl, hi⟩ := fnd_mem (d := .tup (.str w :: es)) (x := .int ((j : Int) + 1)) (e := e') (by rw [h]; exact List.mem_cons_self)
    rw [esb] at hq
    obtain ⟨a1, a2, a3⟩ := sb_at hq
    simp only [isI, beq_iff_eq] at hi
    have : q.1 - 1 = j := by omega
    rw [this, he] at a2
    rw [Option.some.inj a2]
    exact ⟨r, rfl⟩
theorem fnd_no {d x : D} (h : ∀ q ∈ sbs d, isI x q.1 = false) : fnd d x = [] := by
  unfold fnd
  refine List.filterMap_eq_nil_iff.mpr fun q hq => ?_
  simp [h q hq]
theorem fnd_non {d x : D} (h : isW x = false) : fnd d x = [] := fnd_no fun q _ => by cases x <;> simp_all [isW, isI]
theorem prt_tm {NN : List Str} : ∀ (ps : List D) (d : D) (n : Nat), Tm NN (n + 1) d → prt d ps = [] ∨ ∃ e k, prt d ps = [e] ∧ Tm NN (k + 1) e
  | [], d, n, h => .inr ⟨d, n, rfl, h⟩
  | x :: ps, d, n, h => by
    cases hf : fnd d x with
    | nil => exact .inl (prt_n hf)
    | cons e r =>
      rw [prt_c hf]
      obtain ⟨q, hq, rfl, _⟩ := fnd_mem (d := d) (x := x) (e := e) (by rw [hf]; exact List.mem_cons_self)
      have tq := h.sbs.2 q hq
      cases n with
      | zero => exact tq.elim
      | succ n => exact prt_tm ps q.2 n tq
/-- what part_at tells -/
def prd (d x : D) : D := match x with
  | .tup ps => (match prt d ps with
    | e :: _ => e
    | [] => .non)
  | _ => .non
theorem r_partat {NN : List Str} (hN : NmOk NN) {n lv : Nat} {d x : D} (h : Tm NN (n + 1) d) (hn : n + 1 ≤ 100) (hl : 222 ≤ lv) (hx : ∀ k, x ≠ .ref k) (m : Sto) : run F C lv 17 [d, x] m = .ok (prd d x) m := by
  obtain ⟨lv, rfl⟩ : ∃ a, lv = a + 3 := ⟨lv - 3, by omega⟩
  have rc := fun m => r_check hN h hn (lv := lv + 2) (by omega) m
  have s0 := size_0
  refine wp_eq (wp_run (g := f17) rfl rfl ?_)
  have non : isiD m x .tup = false → prd d x = .non → wp (exs (run F C (lv + 2)) C f17.body [some d, some x, none]) m (endD fun b m2 => b = prd d x ∧ m2 = m) := fun hi hp => by
    rw [hp]
    simp [f17, b17, eq_wp (rc _), hi, s0, g_nil]
  cases x with
  | tup ps =>
    have rp := fun m => r_partby d ps lv m h
    rcases prt_tm ps d n h with hp | ⟨e, k, hp, te⟩
    · rw [hp] at rp
      have : prd d (.tup ps) = .non := by simp only [prd, hp]
      rw [this]
      simp [f17, b17, eq_wp (rc _), isi_tt, eq_wp (rp _), s0, g_nil]
    · rw [hp] at rp
      have : prd d (.tup ps) = e := by simp only [prd, hp]
      rw [this]
      have cn := cne_lst (m := m) (lay_tm hN _ e te)
      simp [f17, b17, eq_wp (rc _), isi_tt, eq_wp (rp _), s0, -c_ne, cn]
  | ref k => exact absurd rfl (hx k)
  | _ => exact non rfl rfl
end Pk05
end
section -- S05
set_option Elab.async false
set_option linter.all false
set_option maxRecDepth 100000
set_option maxHeartbeats 4000000
namespace Pk05
open PySem L2 Mp
def I34 (NN : List Str) (d : D) (ps : List D) (m : Sto) (rest : List D) (r : Mp.Env) (m' : Sto) : Prop :=
  ∃ (k : Nat) (here : D) (e3 : Option D), r = [some d, some (.tup ps), some here, e3] ∧ Tm NN (k + 1) here ∧ prt here rest = prt d ps ∧ Ap m m'
theorem r_lpart {NN : List Str} {d : D} {ps : List D} {n : Nat} (h : Tm NN (n + 1) d) (lv : Nat) (m : Sto) : wp (run F C (lv + 2) 34 [d, .tup ps]) m fun r m' => r = .lst (prt d ps) ∧ Ap m m' := by
  have s0 := size_0
  have s1 := size_1
  have s5 := size_5
  refine wp_run (g := f34) rfl rfl ?_
  simp [f34, b34, isi_tt, -thenS_nx]
  rw [thenS_nx]
  simp [-thenS_nx]
  rw [thenS_nx]
  simp [-thenS_nx]
  refine wp_forL (I34 NN d ps m) _ _ _ ?_ ?_ ?_
  · unfold I34
    exact ⟨n, d, none, rfl, h, rfl, .refl⟩
  · intro x rest r m' hI
    unfold I34 at hI
    obtain ⟨k, here, e3, rfl, tm, hp, ap⟩ := hI
    have tm0 := tm
    obtain ⟨w, cs, es, rfl, hs, he⟩ := tm
    have h5 := shp_len hs
    have hlen := he.len
    obtain ⟨h1, h2, h3, h4⟩ := shp_ok hs
    have hsz : cs.length ≤ sizeLine := Nat.le_trans h5 s5
    have fin0 : prt d ps = [] → Ap m m' := fun _ => ap
    by_cases hx : ∃ i, x = .int i
    · obtain ⟨i, rfl⟩ := hx
      have ii : isiD m' (.int i) .int = true := rfl
      have ib : isiD m' (.int i) .bool = false := rfl
      by_cases hin : 1 ≤ i ∧ i < (es.length : Int) + 1
      · obtain ⟨j, rfl⟩ : ∃ j : Nat, i = (j : Int) + 1 := ⟨(i - 1).toNat, by omega⟩
        have hjl : j < es.length := by omega
        have hjc : j < cs.length := by omega
        have hcj : cs[j]? = some cs[j] := by simp [hjc]
        obtain ⟨e, hee, el⟩ := he.at hcj
        have hcm := h4 _ (List.getElem_mem hjc)
        have l1 : (1 : Int) ≤ (j : Int) + 1 := by omega
        have l2 : (j : Int) + 1 < (es.length : Int) + 1 := by omega
        have ixe : atI (D.str w :: es) ((j : Int) + 1) = some e := by
          have := at_n (xs := D.str w :: es) (j + 1)
          simpa [hee] using this
        simp [ii, ib, l1, l2, s0, -thenS_nx]
        rw [thenS_nx]
        simp [-thenS_nx, -c_ne]
        refine wp_mono (r_forms hs lv m') fun z m1 ⟨ez, ap1⟩ => ?_
        subst ez
        have ixt := ix_txt (m := m1) hcj hsz
        have cne := cne_t (m := m1) hcm
        by_cases h6 : cs[j] = 116
        · rw [h6] at hcj
          obtain ⟨r, hr⟩ := fnd_yes hs hcj hee
          rw [prt_c hr] at hp
          have te : Tm NN k e := by unfold El at el; simpa [h6] using el
          have hk : ∃ k', k = k' + 1 := by
            cases k with
            | zero => exact te.elim
            | succ k => exact ⟨k, rfl⟩
          obtain ⟨k', rfl⟩ := hk
          simp only [h6, decide_true, Bool.not_true] at cne
          rw [h6] at ixt
          simp [ixt, cne, -c_ne, ixe, loopQ]
          unfold I34
          exact ⟨k', e, _, rfl, te, hp, ap.trans ap1⟩
        · have hf : fnd (.tup (.str w :: es)) (.int ((j : Int) + 1)) = [] := fnd_no fun q hq => by
            have esb : sbs (.tup (.str w :: es)) = sb 1 cs es := by simp only [sbs, shp_look hs]
            rw [esb] at hq
            obtain ⟨a1, a2, a3⟩ := sb_at hq
            simp only [isI]
            cases hb : ((q.1 : Int) == (j : Int) + 1) with
            | false => rfl
            | true =>
              simp only [beq_iff_eq] at hb
              have : q.1 - 1 = j := by omega
              rw [this, hcj] at a3
              exact absurd (Option.some.inj a3) h6
          rw [prt_n hf] at hp
          simp only [decide_eq_false h6, Bool.not_false] at cne
          simp [ixt, cne, -c_ne, s0, loopQ, ← hp]
          exact ap.trans ap1
      · have hf : fnd (.tup (.str w :: es)) (.int i) = [] := fnd_no fun q hq => by
          have esb : sbs (.tup (.str w :: es)) = sb 1 cs es := by simp only [sbs, shp_look hs]
          rw [esb] at hq
          obtain ⟨a1, a2, a3⟩ := sb_at hq
          have := (List.getElem?_eq_some_iff.mp a2).1
          simp only [isI]
          cases hb : ((q.1 : Int) == i) with
          | false => rfl
          | true => simp only [beq_iff_eq] at hb; omega
        rw [prt_n hf] at hp
        by_cases l1 : (1 : Int) ≤ i
        · have l2 : ¬ i < (es.length : Int) + 1 := fun q => hin ⟨l1, q⟩
          simp [ii, ib, l1, l2, s0, loopQ, ← hp]
          exact ap
        · simp [ii, ib, l1, s0, loopQ, ← hp]
          exact ap
    · have hw : isW x = false := by cases x <;> first | rfl | exact absurd ⟨_, rfl⟩ hx
      rw [prt_n (fnd_non hw)] at hp
      have ii : isiD m' x .int = false ∨ (isiD m' x .int = true ∧ isiD m' x .bool = true) := by
        cases x <;> first | exact .inl rfl | exact .inr ⟨rfl, rfl⟩ | exact absurd ⟨_, rfl⟩ hx
      rcases ii with ii | ⟨ii, ib⟩
      · simp [ii, s0, loopQ, ← hp]
        exact ap
      · simp [ii, ib, s0, loopQ, ← hp]
        exact ap
  · intro r m' hI
    unfold I34 at hI
    obtain ⟨k, here, e3, rfl, tm, hp, ap⟩ := hI
    rw [prt_nil] at hp
    simp [s1, ← hp]
    exact ap
theorem r_lpart_no {d x : D} (hx : ∀ m, isiD m x .tup = false) (lv : Nat) (m : Sto) : run F C (lv + 1) 34 [d, x] m = .ok (.lst []) m := by
  have s0 := size_0
  refine wp_eq (wp_run (g := f34) rfl rfl ?_)
  simp [f34, b34, hx, s0]
end Pk05
end
section -- T05
set_option Elab.async false
set_option linter.all false
set_option maxRecDepth 100000
set_option maxHeartbeats 4000000
namespace Pk05
open PySem L2 Mp
def BB : Nat := 10 ^ 302
theorem BB_lt : BB < 10 ^ 310 := by decide +kernel
theorem B_le : B ≤ BB := by decide +kernel
def NmSz (NN : List Str) : Prop := ∀ x ∈ NN, (reprText x).length ≤ 20
def szB (p : Str × List Nat) : Bool := decide ((reprText p.1).length ≤ 12)
theorem shp_sz {w : Str} {cs : List Nat} (h : (w, cs) ∈ shp) : (reprText w).length ≤ 12 := by
  have : shp.all szB = true := by decide +kernel
  have := List.all_eq_true.mp this _ h
  simpa [szB] using this
theorem tm_shw {NN : List Str} (hN : NmOk NN) : ∀ (n : Nat) (d : D), Tm NN n d → shw BB d ∧ dpt d ≤ n + 6
  | 0, d, h => h.elim
  | n + 1, d, h => by
    obtain ⟨w, cs, es, rfl, hs, he⟩ := h
    obtain ⟨h1, h2, h3, h4⟩ := shp_ok hs
    have key : ∀ (cs : List Nat) (es : List D), Els NN (Tm NN n) cs es → shwL BB es ∧ dptL es ≤ n + 6 := by
      intro cs
      induction cs with
      | nil => intro es he; simp only [Els] at he; subst he; exact ⟨by simp only [shwL], by simp [dptL]⟩
      | cons c cs ih =>
        intro es he
        obtain ⟨e, r, rfl, el, hr⟩ := he
        obtain ⟨i1, i2⟩ := ih r hr
        have : shw BB e ∧ dpt e ≤ n + 6 := by
          unfold El at el
          split at el
          · exact tm_shw hN n e el
          · split at el
            · obtain ⟨x, hx, rfl⟩ := el; simp only [shw, dpt]; exact ⟨nm_ok hN x hx, by omega⟩
            · split at el
              · obtain ⟨k, rfl, hk⟩ := el
                exact ⟨shw_d BB k, by rw [dpt_d]; omega⟩
              · split at el
                · rcases el with rfl | rfl | rfl <;> simp only [shw, dpt] <;> exact ⟨by decide +kernel, by omega⟩
                · obtain ⟨i, rfl, hi⟩ := el; simp only [shw, dpt]; exact ⟨hi, by omega⟩
        simp only [shwL, dptL]
        exact ⟨⟨this.1, i1⟩, by omega⟩
    obtain ⟨k1, k2⟩ := key cs es he
    simp only [shw, shwL, dpt, dptL]
    exact ⟨⟨h3, k1⟩, by omega⟩
theorem sb_sl : ∀ (cs : List Nat) (es : List D) (i : Nat) (f : D → Nat), (∀ q ∈ sb i cs es, f q.2 ≤ sl q.2) → ((sb i cs es).map fun q => f q.2).sum ≤ slL es
  | [], es, i, f, h => by simp [sb]
  | c :: cs, [], i, f, h => by simp [sb]
  | c :: cs, e :: es, i, f, h => by
    rw [sb_cons] at h ⊢
    simp only [slL]
    by_cases hc : c = 116
    · rw [if_pos hc] at h ⊢
      have := sb_sl cs es (i + 1) f fun q hq => h q (List.mem_cons_of_mem _ hq)
      have h0 := h (i, e) List.mem_cons_self
      simp only [List.map_cons, List.sum_cons]
      simp only at h0
      omega
    · rw [if_neg hc] at h ⊢
      have := sb_sl cs es (i + 1) f h
      omega
theorem cnt_sl {NN : List Str} : ∀ (n : Nat) (d : D), Tm NN n d → cnt n d ≤ sl d
  | 0, d, h => h.elim
  | n + 1, d, h => by
    have hsub := h.sbs.2
    obtain ⟨w, cs, es, rfl, hs, he⟩ := h
    have esb : sbs (.tup (.str w :: es)) = sb 1 cs es := by simp only [sbs, shp_look hs]
    rw [esb] at hsub
    have := sb_sl cs es 1 (cnt n) fun q hq => cnt_sl n q.2 (hsub q hq)
    simp only [cnt, esb, sl, slL]
    omega
theorem rows_part {NN : List Str} : ∀ (n : Nat) (d : D) (p : List Nat) (b : List D), Tm NN n d → ∀ r ∈ rows n d p b, ∃ q : List Nat, r.1 = p ++ q ∧ prt d (q.map fun (i : Nat) => D.int (i : Int)) = [r.2.1] ∧ (∀ i ∈ q, i ≤ 5) ∧ q.length + 1 ≤ n
  | 0, d, p, b, h, r, hr => h.elim
  | n + 1, d, p, b, h, r, hr => by
    have e : rows (n + 1) d p b = (p, d, b) :: rsum n d p b (sbs d) := rfl
    rw [e] at hr
    rcases List.mem_cons.mp hr with rfl | hr
    · exact ⟨[], by simp, rfl, fun i hi => by simp at hi, by simp⟩
    · unfold rsum at hr
      obtain ⟨l, hl, hr⟩ := List.mem_flatten.mp hr
      obtain ⟨q, hq, rfl⟩ := List.mem_map.mp hl
      have tq := h.sbs.2 q hq
      obtain ⟨q', e1, e2, e3, e4⟩ := rows_part n q.2 _ _ tq r hr
      obtain ⟨w, cs, es, rfl, hs, he⟩ := h
      have esb : sbs (.tup (.str w :: es)) = sb 1 cs es := by simp only [sbs, shp_look hs]
      rw [esb] at hq
      obtain ⟨a1, a2, a3⟩ := sb_at hq
      have h5 := shp_len hs
      have hlt := (List.getElem?_eq_some_iff.mp a3).1
      obtain ⟨rr, hrr⟩ := fnd_yes hs a3 a2
      have ei : (((q.1 - 1 : Nat) : Int) + 1) = (q.1 : Int) := by omega
      rw [ei] at hrr
      refine ⟨q.1 :: q', by rw [e1]; simp, ?_, fun i hi => ?_, by simp; omega⟩
      · rw [List.map_cons, prt_c hrr]
        exact e2
      · rcases List.mem_cons.mp hi with rfl | hi
        · omega
        · exact e3 i hi
end Pk05
end
section -- U05
set_option Elab.async false
set_option linter.all false
set_option maxRecDepth 100000
set_option maxHeartbeats 7000000
namespace Pk05
open PySem L2 Mp
def sm (x : D) : Prop := shw BB x ∧ sl x ≤ 320 ∧ dpt x ≤ 0
theorem sm_int {i : Int} (h : i.natAbs ≤ 1000) : sm (.int i) := by
  refine ⟨?_, by simp [sl], by simp [dpt]⟩
  simp only [shw]
  have : (1000 : Nat) ≤ BB := by decide +kernel
  omega
theorem sm_bl {b : Bool} : sm (.bl b) := ⟨by simp [shw], by simp [sl], by simp [dpt]⟩
theorem sm_tup {ds : List D} (h : ∀ x ∈ ds, sm x) (hl : ds.length ≤ 210) : (shw BB (.tup ds) ∧ sl (.tup ds) ≤ 70000 ∧ dpt (.tup ds) ≤ 3) ∧ (shw BB (.lst ds) ∧ sl (.lst ds) ≤ 70000 ∧ dpt (.lst ds) ≤ 3) := by
  have h1 : shwL BB ds := shwL_mem.mpr fun x hx => (h x hx).1
  have h2 := slL_le fun x hx => (h x hx).2.1
  have h3 := dptL_le fun x hx => (h x hx).2.2
  have h4 : ds.length * 322 ≤ 210 * 322 := Nat.mul_le_mul_right _ hl
  have h5 : slL ds ≤ 67620 := by
    have : ds.length * (320 + 2) = ds.length * 322 := rfl
    omega
  simp only [shw, sl, dpt]
  exact ⟨⟨h1, by omega, by omega⟩, h1, by omega, by omega⟩
theorem cutD_mem {xs : List D} {lo hi : Option Int} {x : D} (h : x ∈ cutD xs lo hi) : x ∈ xs := by
  unfold cutD at h
  exact List.mem_of_mem_drop (List.mem_of_mem_take h)
theorem cutD_len {xs : List D} {lo hi : Option Int} : (cutD xs lo hi).length ≤ xs.length := by
  unfold cutD
  simp
  omega
theorem r_other {n w N : Nat} {m : Sto} {p : List Nat} (hn : 5 ≤ n) (hw : Well m w N) (hN : N + 3 < 2 ^ 60) (hp : ∀ i ∈ p, i ≤ 5) (hl : p.length ≤ 100) : wp (run F C n 35 [.ref w, pD p]) m fun d m' => Go w 2 m m' ∧ shw BB d ∧ sl d ≤ 70000 ∧ dpt d ≤ 3 := by
  obtain ⟨n, rfl⟩ : ∃ a, n = a + 1 := ⟨n - 1, by omega⟩
  refine wp_run (g := f35) rfl rfl ?_
  generalize hxs : (p.map fun (i : Nat) => D.int (i : Int)) = xs
  have epd : pD p = .tup xs := by rw [← hxs]; rfl
  have hsm : ∀ x ∈ xs, sm x := fun x hx => by
    rw [← hxs] at hx
    obtain ⟨i, hi, rfl⟩ := List.mem_map.mp hx
    have := hp i hi
    exact sm_int (by omega)
  have hint : ∀ x ∈ xs, ∃ i : Nat, x = .int (i : Int) ∧ i ≤ 5 := fun x hx => by
    rw [← hxs] at hx
    obtain ⟨i, hi, rfl⟩ := List.mem_map.mp hx
    exact ⟨i, rfl, hp i hi⟩
  have hlen : xs.length ≤ 100 := by rw [← hxs]; simpa using hl
  have hlay : layL xs := by
    have : ∀ ys : List D, (∀ x ∈ ys, ∃ i : Nat, x = .int (i : Int) ∧ i ≤ 5) → layL ys := by
      intro ys
      induction ys with
      | nil => intro _; simp only [layL]
      | cons y ys ih =>
        intro h
        obtain ⟨i, rfl, _⟩ := h y List.mem_cons_self
        simp only [layL, lay, true_and]
        exact ih fun x hx => h x (List.mem_cons_of_mem _ hx)
    exact this xs hint
  rw [epd]
  have s1 := size_1
  have mil := million'
  have mil2 : (200 : Nat) ≤ sizeLine := by omega
  simp [f35, b35, -thenS_nx]
  refine wp_mono (draw' (n := n) (by omega) hw (by omega) (by decide) (by decide)) fun dd m1 ⟨g1, r, er, r1⟩ => ?_
  subst er
  rw [thenS_nx]
  have hw1 := g1.well _ hw
  have cl := cutD_len (xs := xs) (lo := none) (hi := some (-1))
  have cl2 := cutD_len (xs := xs) (lo := some (-1)) (hi := none)
  have cm : ∀ lo hi, ∀ x ∈ cutD xs lo hi, sm x := fun lo hi x hx => hsm x (cutD_mem hx)
  have g1' : Go w 2 m m1 := g1.mono (by omega)
  have rs : r = 0 ∨ r = 1 ∨ r = 2 ∨ r = 3 ∨ r = 4 ∨ r = 5 ∨ r = 6 ∨ r = 7 ∨ r = 8 := by omega
  have dr : ∀ (k : Int), 0 < k → k < 1000 → ∀ Q : D → Sto → Prop, (∀ (i : Nat) m2, (i : Int) < k → Go w 2 m m2 → Q (.int i) m2) → wp (run F C n 19 [.ref w, .int k]) m1 Q := fun k h0 h1 Q h =>
    wp_mono (draw' (n := n) (by omega) hw1 (by omega) h0 (by omega)) fun d' m2 ⟨g2, i, ei, hi⟩ => by
      subst ei
      exact h i m2 hi (g1.trans g2)
  have app : ∀ {ys zs : List D}, (∀ x ∈ ys, sm x) → (∀ x ∈ zs, sm x) → ∀ x ∈ ys ++ zs, sm x := fun h k x hx => (List.mem_append.mp hx).elim (h x) (k x)
  have one : ∀ {y : D}, sm y → ∀ x ∈ [y], sm x := fun h x hx => by rw [List.mem_singleton.mp hx]; exact h
  have low : ∀ r : Nat, r < 3 → (r : Int) < 3 := fun r h => by omega
  have lt3 : xs.length + 1 ≤ sizeLine := by omega
  have lt4 : (cutD xs none (some (-1))).length + 1 ≤ sizeLine := by omega
  have lt5 : (cutD xs none (some (-1))).length + 1 + (cutD xs (some (-1)) none).length ≤ sizeLine := by omega
  have od : wp (run F C n 22 [.ref w]) m1 fun d m' => Go w 2 m m' ∧ shw BB d ∧ sl d ≤ 70000 ∧ dpt d ≤ 3 := wp_mono (odd' (n := n) (by omega) hw1 (by omega)) fun d m2 ⟨g2, h1, h2, h3⟩ => ⟨g1.trans g2, shw_le B_le _ h1, by omega, h3⟩
  have short : ∀ r : Nat, r < 3 → wp (exs (run F C n) C (match b35 with
      | .c _ rest => rest
      | .n => .n) [some (.ref w), some (.tup xs), some (.int (r : Int))]) m1 (endD fun d m' => Go w 2 m m' ∧ shw BB d ∧ sl d ≤ 70000 ∧ dpt d ≤ 3) := fun r hr => by
    simp [b35, low r hr]
    refine dr 7 (by decide) (by decide) _ fun i m2 hi g2 => ?_
    simp [s1, lt3]
    exact ⟨g2, (sm_tup (app hsm (one (sm_int (by omega)))) (by simp; omega)).1⟩
  rcases rs with rfl | rfl | rfl | rfl | rfl | rfl | rfl | rfl | rfl
  · exact short 0 (by decide)
  · exact short 1 (by decide)
  · exact short 2 (by decide)
  · simp [sliD]
    exact ⟨g1', (sm_tup (cm _ _) (by omega)).1⟩
  · refine (?_ : wp _ _ _)
    simp [items]
    exact ⟨g1', (sm_tup hsm (by omega)).2⟩
  · simp
    refine dr 3 (by decide) (by decide) _ fun i m2 hi g2 => ?_
    simp [s1, lt3]
    exact ⟨g2, (sm_tup (app hsm (one (sm_int (by omega)))) (by simp; omega)).1⟩
  · simp [sliD, s1, lt4]
    exact ⟨g1', (sm_tup (app (cm _ _) (one sm_bl)) (by simp; omega)).1⟩
  · have cn := cne_tup (m := m1) hlay
    cases hne : xs with
    | nil =>
      rw [hne] at cn
      simp only [List.isEmpty_nil, Bool.not_true] at cn
      simp [-c_ne, cn, size_0]
      exact od
    | cons y ys =>
      rw [← hne]
      have hpos : 0 < xs.length := by rw [hne]; simp
      have cn' : cmpD m1 .NotEq (.tup xs) (.tup []) = some true := by rw [cn, hne]; rfl
      obtain ⟨z, hz, ez⟩ := at_last hpos
      obtain ⟨i, rfl, hi⟩ := hint z hz
      simp [-c_ne, cn', size_0, sliD, ez, s1, lt4, lt5]
      refine ⟨g1', (sm_tup (app (cm _ _) ?_) (by simp; omega)).1⟩
      intro x hx
      rcases List.mem_cons.mp hx with rfl | hx
      · exact sm_int (by omega)
      · exact cm _ _ x hx
  · simp
    exact od
end Pk05
end
section -- V05
set_option Elab.async false
set_option linter.all false
set_option maxRecDepth 100000
set_option maxHeartbeats 4000000
namespace Pk05
open PySem L2 Mp
theorem prt_sl : ∀ (ps : List D) (d e : D), prt d ps = [e] → sl e ≤ sl d
  | [], d, e, h => by rw [prt_nil] at h; cases h; exact Nat.le_refl _
  | x :: ps, d, e, h => by
    cases hf : fnd d x with
    | nil => rw [prt_n hf] at h; cases h
    | cons y r =>
      rw [prt_c hf] at h
      have := prt_sl ps y e h
      obtain ⟨q, hq, rfl, _⟩ := fnd_mem (d := d) (x := x) (e := y) (by rw [hf]; exact List.mem_cons_self)
      cases d with
      | tup es =>
        cases es with
        | nil => simp [sbs] at hq
        | cons z es =>
          cases z with
          | str w =>
            simp only [sbs] at hq
            split at hq
            · obtain ⟨a1, a2, a3⟩ := sb_at hq
              have := sl_mem (List.mem_of_getElem? a2)
              simp only [sl, slL]
              omega
            · simp at hq
          | _ => simp [sbs] at hq
      | _ => simp [sbs] at hq
/-- what is told of another path -/
theorem prd_ok {NN : List Str} (hN : NmOk NN) {d x : D} {n : Nat} (h : Tm NN (n + 1) d) (hn : n + 1 ≤ 101) (hz : sl d ≤ 900000) : shw BB (prd d x) ∧ sl (prd d x) ≤ sizeLine ∧ dpt (prd d x) ≤ 190 := by
  have mil := million'
  have non : shw BB .non ∧ sl .non ≤ sizeLine ∧ dpt .non ≤ 190 := ⟨by simp only [shw], by simp only [sl]; omega, by simp only [dpt]; omega⟩
  cases x with
  | tup ps =>
    simp only [prd]
    rcases prt_tm ps d n h with hp | ⟨e, k, hp, te⟩
    · rw [hp]; exact non
    · rw [hp]
      simp only
      have h1 := prt_sl ps d e hp
      have hz2 : ∀ (ps : List D) (d e : D) (n : Nat), Tm NN (n + 1) d → prt d ps = [e] → ∃ k, k ≤ n ∧ Tm NN (k + 1) e := by
        intro ps
        induction ps with
        | nil => intro d e n h hp; rw [prt_nil] at hp; cases hp; exact ⟨n, Nat.le_refl _, h⟩
        | cons x ps ih =>
          intro d e n h hp
          cases hf : fnd d x with
          | nil => rw [prt_n hf] at hp; cases hp
          | cons y r =>
            rw [prt_c hf] at hp
            obtain ⟨q, hq, rfl, _⟩ := fnd_mem (d := d) (x := x) (e := y) (by rw [hf]; exact List.mem_cons_self)
            have tq := h.sbs.2 q hq
            cases n with
            | zero => exact tq.elim
            | succ n =>
              obtain ⟨k, hk, tk⟩ := ih q.2 e n tq hp
              exact ⟨k, by omega, tk⟩
      obtain ⟨k, hk, tk⟩ := hz2 ps d e n h hp
      obtain ⟨s1, s2⟩ := tm_shw hN _ e tk
      exact ⟨s1, by omega, by omega⟩
  | _ => exact non
theorem eD_txt {x : Str} : eqD (.str x) (.str x) = some true := e_self
def tail36b : Ss := (.c (.iff (.or (.c (.not (.call 21 (.c (.call 17 (.c (.loc 1) (.c (.loc 8) .n))) (.c (.ite (.cmp .NotEq (.loc 9) (.lst .n)) (.sub (.loc 9) (.cst (.int 0))) (.cst .non)) .n)))) (.c (.cmp .NotEq (.blt .repr (.c (.loc 8) .n)) (.loc 10)) .n))) (.c (.ret (.cst (.bl false))) .n) .n) .n)
def tail36 : Ss := (.c (.iff (.not (.call 21 (.c (.loc 7) (.c (.loc 5) .n)))) (.c (.ret (.cst (.bl false))) .n) .n) (.c (.asg (.nm 8) (.call 35 (.c (.loc 0) (.c (.loc 4) .n)))) (.c (.asg (.tp (.c (.nm 9) (.c (.nm 10) .n))) (.tup (.c (.call 34 (.c (.loc 1) (.c (.loc 8) .n))) (.c (.blt .repr (.c (.loc 8) .n)) .n)))) tail36b)))
theorem ne_str {m : Sto} {x : Str} : cmpD m .NotEq (.str x) (.str x) = some false := ne_self
theorem ne_lst {m : Sto} : cmpD m .NotEq (.lst []) (.lst []) = some false := ne_nil
def I36 (w : Nat) (d : D) (rs : List Rw) (b : Int) (m : Sto) (rest : List D) (r : Mp.Env) (m' : Sto) : Prop :=
  ∃ (c : Nat) (e4 e5 e6 e7 e8 e9 e10 : Option D), r = [some (.ref w), some d, some (.lst (rs.map rowD)), some (.int b), e4, e5, e6, e7, e8, e9, e10] ∧ (∀ x ∈ rest, ∃ q ∈ rs, x = rowD q) ∧ Go w c m m' ∧ c + 3 * rest.length ≤ 1 + 3 * rs.length
theorem r_paths {NN : List Str} (hN : NmOk NN) {n lv w N : Nat} {d : D} {m : Sto} (h : Tm NN (n + 1) d) (hn : n + 1 ≤ 100) (hz : sl d ≤ 900000) (hl : 226 ≤ lv) (hw : Well m w N) (hNN : N + 4000000 < 2 ^ 60) :
    wp (run F C lv 36 [.ref w, d, .lst ((rows (n + 1) d [] []).map rowD)]) m fun r m' => r = .bl true ∧ Go w 3000000 m m' := by
  obtain ⟨lv, rfl⟩ : ∃ a, lv = a + 3 := ⟨lv - 3, by omega⟩
  have s0 := size_0
  have mil := million'
  have hc := cnt_sl (n + 1) d h
  have hrl : (rows (n + 1) d [] []).length ≤ 900000 := by rw [rows_len]; omega
  have hr0 : 0 < (rows (n + 1) d [] []).length := by simp [rows]
  have hparts := rows_part (n + 1) d [] [] h
  have hoks := rows_ok (n + 1) d [] [] h ⟨[], rfl, fun z hz => by simp at hz⟩
  generalize hrs : rows (n + 1) d [] [] = rs at *
  refine wp_run (g := f36) rfl rfl ?_
  simp [f36, b36, -thenS_nx]
  refine wp_mono (draw' (n := lv + 2) (by omega) hw (by omega) (by omega) (by omega)) fun dd m1 ⟨g1, b, eb, b1⟩ => ?_
  subst eb
  rw [thenS_nx]
  simp [sliD, -thenS_nx]
  refine wp_forL (I36 w d rs b m) _ _ _ ?_ ?_ ?_
  · unfold I36
    refine ⟨1, none, none, none, none, none, none, none, rfl, fun x hx => ?_, g1, ?_⟩
    · have := cutD_mem hx
      obtain ⟨q, hq, rfl⟩ := List.mem_map.mp this
      exact ⟨q, hq, rfl⟩
    · have := cutD_len (xs := rs.map rowD) (lo := some (b : Int)) (hi := some ((b : Int) + 6))
      rw [List.length_map] at this
      omega
  · intro x rest r m' hI
    unfold I36 at hI
    obtain ⟨c, e4, e5, e6, e7, e8, e9, e10, rfl, hx, hg, hcc⟩ := hI
    obtain ⟨q, hq, rfl⟩ := hx x List.mem_cons_self
    obtain ⟨p, e1, e2, e3, e4'⟩ := hparts q hq
    rw [List.nil_append] at e1
    obtain ⟨qp, qd, qb⟩ := q
    have e1 : qp = p := e1
    subst e1
    have e2 : prt d (qp.map fun (i : Nat) => D.int (i : Int)) = [qd] := e2
    have hprd : prd d (pD qp) = qd := by simp only [prd, pD, e2]
    have rp := fun x hx m => r_partat hN h hn (lv := lv + 2) (by omega) (x := x) hx m
    have rp1 : ∀ m, run F C (lv + 2) 17 [d, pD qp] m = .ok qd m := fun m => by rw [rp (pD qp) (fun k => by simp [pD]) m, hprd]
    obtain ⟨p1, p2, p3⟩ := prd_ok hN (x := pD qp) h (by omega) hz
    rw [hprd] at p1 p2 p3
    have sm1 := fun m => same' (n := lv + 2) (m := m) (by omega) BB_lt p1 p2 p3
    have hw' := hg.well _ hw
    have hc3 : c ≤ 3000000 := by omega
    simp only [List.length_cons] at hcc
    simp [rowD, Tgs.len, -thenS_nx]
    refine wp_mono (draw' (n := lv + 2) (by omega) hw' (by omega) (by decide) (by decide)) fun dd m2 ⟨g2, t, et, ht⟩ => ?_
    subst et
    have tl : ∀ Q, wp (exs (run F C (lv + 2)) C tail36 [some (.ref w), some d, some (.lst (rs.map rowD)), some (.int (b : Int)), some (pD qp), some qd, some (.tup qb), some qd, e8, e9, e10]) m2 (loopQ Q (I36 w d rs b m rest)) := fun Q => by
      have hw2 := g2.well _ hw'
      simp [tail36, eq_wp (sm1 _), -thenS_nx]
      rw [thenS_nx]
      simp [-thenS_nx]
      refine wp_mono (r_other (n := lv + 2) (by omega) hw2 (by omega) e3 (by omega)) fun o m3 ⟨g3, o1, o2, o3⟩ => ?_
      have hnr : ∀ k, o ≠ .ref k := shw_nr o1
      obtain ⟨os, ros⟩ := repr_ok BB_lt o1 (by omega) (by omega)
      have rpo := fun m => rp o hnr m
      obtain ⟨q1, q2, q3⟩ := prd_ok hN (x := o) h (by omega) hz
      have smo := fun m => same' (n := lv + 2) (m := m) (by omega) BB_lt q1 q2 q3
      have fin : ∀ (ps : List D) m4, prd d o = (match ps with
          | e :: _ => e
          | [] => .non) → (ps = [] ∨ ∃ e, ps = [e] ∧ lay e) → Ap m3 m4 → wp (exs (run F C (lv + 2)) C tail36b [some (.ref w), some d, some (.lst (rs.map rowD)), some (.int (b : Int)), some (pD qp), some qd, some (.tup qb), some qd, some o, some (.lst ps), some (.str os)]) m4 (loopQ Q (I36 w d rs b m rest)) := fun ps m4 hpo hps ap => by
        have last : ∀ e9, I36 w d rs b m rest [some (.ref w), some d, some (.lst (rs.map rowD)), some (.int (b : Int)), some (pD qp), some qd, some (.tup qb), some qd, some o, e9, some (.str os)] m4 := fun e9 => by
          unfold I36
          have hw3 := g3.well _ hw2
          exact ⟨c + 1 + 2 + 0, _, _, _, _, _, _, _, rfl, fun x hx' => hx x (List.mem_cons_of_mem _ hx'), ((hg.trans g2).trans g3).trans (ap.go hw3), by omega⟩
        rcases hps with rfl | ⟨e, rfl, le⟩
        · rw [show prd d o = .non from hpo] at rpo smo
          simp [tail36b, eq_wp (rpo _), s0, g_nil, eq_wp (smo _), t_repr, ros, -c_ne, ne_lst, ne_str, loopQ]
          exact last _
        · rw [show prd d o = e from hpo] at rpo smo
          simp [tail36b, eq_wp (rpo _), s0, cne_lst le, eq_wp (smo _), t_repr, ros, -c_ne, ne_str, loopQ]
          exact last _
      by_cases ht : ∃ ps, o = .tup ps
      · obtain ⟨ps, rfl⟩ := ht
        rw [thenS_nx]
        simp [Tgs.len, size_2, ros, -thenS_nx]
        refine wp_mono (r_lpart h lv m3) fun z m4 ⟨ez, ap⟩ => ?_
        subst ez
        rw [thenS_nx]
        refine fin (prt d ps) m4 rfl ?_ ap
        rcases prt_tm ps d n h with hp | ⟨e, k, hp, te⟩
        · exact .inl hp
        · exact .inr ⟨e, hp, lay_tm hN _ e te⟩
      · have hno : ∀ m, isiD m o .tup = false := fun m => shw_isi o1 fun xs e => ht ⟨xs, e⟩
        rw [thenS_nx]
        simp [Tgs.len, size_2, ros, eq_wp (r_lpart_no hno (lv + 1) _), -thenS_nx]
        rw [thenS_nx]
        refine fin [] m3 ?_ (.inl rfl) .refl
        cases o <;> first | exact absurd ⟨_, rfl⟩ ht | rfl
    have t01 : t = 0 ∨ t = 1 := by omega
    rcases t01 with rfl | rfl
    · simp [arrange, eq_wp (rp1 _), -thenS_nx]
      rw [thenS_nx]
      exact tl _
    · simp [eq_wp (rp1 _), -thenS_nx]
      rw [thenS_nx]
      exact tl _
  · intro r m' hI
    unfold I36 at hI
    obtain ⟨c, e4, e5, e6, e7, e8, e9, e10, rfl, hx, hg, hcc⟩ := hI
    simp
    exact hg.mono (by omega)
end Pk05
end
section -- X05
set_option Elab.async false
set_option linter.all false
set_option maxRecDepth 100000
set_option maxHeartbeats 4000000
namespace Pk05
open PySem L2 Mp
theorem max_rows {m : Sto} {rs : List Rw} (h : rs ≠ []) : bltD m .max [.lst (rs.map fun r => D.int ((r.1.length : Nat) : Int))] = some (.int ((mx (rs.map fun r => r.1.length) : Nat) : Int)) := by
  cases rs with
  | nil => exact absurd rfl h
  | cons r rs => exact max_map (fun r : Rw => r.1.length) r.1.length rs
theorem r_same_told {NN : List Str} (hN : NmOk NN) (hS : NmSz NN) (hN6 : NN.length ≤ 60) {lv c dd n : Nat} {d r : D} {m m' m2 : Sto} (hlv : 1 ≤ lv) (h : FT NN n d m r m') (hc : c ≤ 900000) (hd : dd ≤ 1000) : run F C lv 21 [.lst [.int (c : Int), .int (dd : Int), r], .lst [.int (c : Int), .int (dd : Int), r]] m2 = .ok (.bl true) m2 ∧ run F C lv 21 [r, r] m2 = .ok (.bl true) m2 := by
  obtain ⟨xs, rfl, hnd, hin, _, _⟩ := h
  have mil := million'
  have hlen : (sortS xs).length ≤ 60 := by
    rw [(sortS_perm xs).length_eq]
    have := List.Nodup.length_le_of_subset hnd fun x hx => hin x hx
    omega
  have hm : ∀ x ∈ (sortS xs).map D.str, shw BB x ∧ sl x ≤ 20 ∧ dpt x ≤ 0 := fun x hx => by
    obtain ⟨y, hy, rfl⟩ := List.mem_map.mp hx
    have hy' := hin y ((sortS_perm xs).mem_iff.mp hy)
    simp only [shw, sl, dpt]
    exact ⟨nm_ok hN y hy', hS y hy', Nat.le_refl _⟩
  have h1 : shwL BB ((sortS xs).map D.str) := shwL_mem.mpr fun x hx => (hm x hx).1
  have h2 := slL_le fun x hx => (hm x hx).2.1
  have h3 := dptL_le fun x hx => (hm x hx).2.2
  rw [List.length_map] at h2
  have h4 : (sortS xs).length * (20 + 2) ≤ 60 * 22 := Nat.mul_le_mul_right _ hlen
  have hb : (1000000 : Nat) ≤ BB := by decide +kernel
  refine ⟨same' hlv BB_lt ?_ ?_ ?_, same' hlv BB_lt ?_ ?_ ?_⟩
  · simp only [shw, shwL]; exact ⟨by omega, by omega, h1, trivial⟩
  · simp only [sl, slL]; omega
  · simp only [dpt, dptL]; omega
  · simp only [shw]; exact h1
  · simp only [sl]; omega
  · simp only [dpt]; omega
def lens (rs : List Rw) : List D := rs.map fun r => D.int ((r.1.length : Nat) : Int)
theorem lc_lens {lv : Nat} {m : Sto} {r : Mp.Env} {rs : List Rw} (hl : r.length = 12) (hz : ∀ q ∈ rs, q.1.length ≤ 1000) : lcL (lcO (run F C lv) C (.nm 11) .n (.blt .len (.c (.sub (.loc 11) (.cst (.int 0))) .n)) r) (rs.map rowD) m = .ok (lens rs) m := by
  refine lcL_mapf (h := rowD) (g := fun q => D.int ((q.1.length : Nat) : Int)) fun q hq => wp_eq ?_
  have h11 : (11 : Nat) < (wipeD r [11]).length := by simp [wipeD, hl]
  simp [Tg.slots, wipeD, hl, rowD, pD]
theorem tell {NN : List Str} (hN : NmOk NN) (hN6 : NN.length ≤ 60) {n lv : Nat} {d : D} (m : Sto) (h : Tm NN (n + 1) d) (hn : n + 1 ≤ 100) (hz : sl d ≤ 900000) (hl : 101 ≤ lv) :
    wp (run F C lv 32 [d, .tup [], .tup []]) m fun r m' => r = .lst ((rows (n + 1) d [] []).map rowD) ∧ Ap m m' := by
  obtain ⟨lv, rfl⟩ : ∃ a, lv = a + 1 := ⟨lv - 1, by omega⟩
  have := r_walked (n + 1) d [] [] lv m h (by omega) (by simp; omega) (by simp; omega) (by have := cnt_sl (n + 1) d h; omega)
  exact this
theorem tellF {NN : List Str} (hN : NmOk NN) (hN6 : NN.length ≤ 60) {n lv : Nat} {d : D} (m : Sto) (h : Tm NN (n + 1) d) (hl : 1 ≤ lv) : wp (run F C lv 33 [.lst ((rows (n + 1) d [] []).map rowD)]) m fun r m' => FT NN (n + 1) d m r m' := by
  obtain ⟨lv, rfl⟩ : ∃ a, lv = a + 1 := ⟨lv - 1, by omega⟩
  refine wp_mono (r_lfree hN hN6 (rows_ok (n + 1) d [] [] h ⟨[], rfl, fun z hz => by simp at hz⟩) lv m) fun r m' ⟨xs, e, h1, h2, h3, ap⟩ => ?_
  refine ⟨xs, e, h1, h2, fun x => ?_, ap⟩
  rw [h3 x, rows_free (n + 1) d [] [] x h]
  simp
theorem prt_dp {NN : List Str} : ∀ (ps : List D) (d e : D) (n : Nat), Tm NN (n + 1) d → prt d ps = [e] → ∃ k, k ≤ n ∧ Tm NN (k + 1) e := by
  intro ps
  induction ps with
  | nil => intro d e n h hp; rw [prt_nil] at hp; cases hp; exact ⟨n, Nat.le_refl _, h⟩
  | cons x ps ih =>
    intro d e n h hp
    cases hf : fnd d x with
    | nil => rw [prt_n hf] at hp; cases hp
    | cons y r =>
      rw [prt_c hf] at hp
      obtain ⟨q, hq, rfl, _⟩ := fnd_mem (d := d) (x := x) (e := y) (by rw [hf]; exact List.mem_cons_self)
      have tq := h.sbs.2 q hq
      cases n with
      | zero => exact tq.elim
      | succ n =>
        obtain ⟨k, hk, tk⟩ := ih q.2 e n tq hp
        exact ⟨k, by omega, tk⟩
theorem dep_le {NN : List Str} : ∀ (n : Nat) (d : D), Tm NN n d → dep n d ≤ n
  | 0, d, h => h.elim
  | n + 1, d, h => by
    simp only [dep]
    have : ∀ qs : List (Nat × D), (∀ q ∈ qs, Tm NN n q.2) → mx (qs.map fun q => dep n q.2) ≤ n := by
      intro qs
      induction qs with
      | nil => intro _; simp [mx]
      | cons q qs ih =>
        intro hq
        have := ih fun q' h' => hq q' (List.mem_cons_of_mem _ h')
        have := dep_le n q.2 (hq q List.mem_cons_self)
        simp only [List.map_cons, mx]
        omega
    have := this (sbs d) h.sbs.2
    omega
def maxE (i : Nat) : E := .bin .Add (.blt .max (.c (.lc (.nm 11) (.seq (.loc i)) .n (.blt .len (.c (.sub (.loc 11) (.cst (.int 0))) .n))) .n)) (.cst (.int 1))
theorem max_run {lv i : Nat} {m : Sto} {r : Mp.Env} {rs : List Rw} {Q : D → Sto → Prop} (hr : r.length = 12) (hi : r[i]? = some (some (.lst (rs.map rowD)))) (hne : rs ≠ []) (hz : ∀ q ∈ rs, q.1.length ≤ 1000) (hl : rs.length ≤ sizeLine) (q : Q (.int (((mx (rs.map fun r => r.1.length) + 1 : Nat)) : Int)) m) : wp (ev (run F C lv) C (maxE i) r) m Q := by
  have hm := max_rows (m := m) hne
  simp [maxE, hi, eq_wp (lc_lens (lv := lv) (m := m) hr hz), lens, hl, hm]
  exact q
def l37a (x : Nat) (es : Es) : Es := .c (.lst es) (.c (.lst (.c (.blt .len (.c (.loc x) .n)) (.c (.loc (x + 1)) .n))) .n)
theorem b37_is : b37 = (.c (.asg (.nm 2) (.call 32 (.c (.loc 1) (.c (.tup .n) (.c (.tup .n) .n))))) (.c (.asg (.nm 3) (maxE 2)) (.c (.asg (.nm 4) (.call 33 (.c (.loc 2) .n))) (.c (.iff (.not (.call 21 (.c (.lst (.c (.call 14 (.c (.loc 1) .n)) (.c (.call 15 (.c (.loc 1) .n)) (.c (.call 16 (.c (.loc 1) .n)) .n)))) (.c (.lst (.c (.blt .len (.c (.loc 2) .n)) (.c (.loc 3) (.c (.loc 4) .n)))) .n)))) (.c (.ret (.cst (.bl false))) .n) .n) (.c (.asg (.tp (.c (.nm 8) (.c (.nm 9) (.c (.nm 10) .n)))) (.sub (.loc 2) (.call 19 (.c (.loc 0) (.c (.blt .len (.c (.loc 2) .n)) .n))))) (.c (.asg (.nm 5) (.call 32 (.c (.loc 9) (.c (.tup .n) (.c (.tup .n) .n))))) (.c (.asg (.nm 6) (maxE 5)) (.c (.asg (.nm 7) (.lst (.c (.calk 14 .n (.c (.loc 9) .n) [0]) (.c (.calk 15 .n (.c (.loc 9) .n) [0]) (.c (.calk 16 .n (.c (.loc 9) .n) [0]) .n))))) (.c (.iff (.not (.call 21 (.c (.loc 7) (.c (.lst (.c (.blt .len (.c (.loc 5) .n)) (.c (.loc 6) (.c (.call 33 (.c (.loc 5) .n)) .n)))) .n)))) (.c (.ret (.cst (.bl false))) .n) .n) (.c (.ret (.and (.c (.call 36 (.c (.loc 0) (.c (.loc 1) (.c (.loc 2) .n)))) (.c (.call 21 (.c (.call 16 (.c (.loc 1) .n)) (.c (.loc 4) .n))) .n)))) .n)))))))))) := rfl
theorem r_counted {NN : List Str} (hN : NmOk NN) (hS : NmSz NN) (hN6 : NN.length ≤ 60) {n lv w N : Nat} {d : D} {m : Sto} (h : Tm NN (n + 1) d) (hn : n + 1 ≤ 100) (hz : sl d ≤ 900000) (hl : 227 ≤ lv) (hw : Well m w N) (hNN : N + 5000000 < 2 ^ 60) :
    wp (run F C lv 37 [.ref w, d]) m fun r m' => r = .bl true ∧ Go w 3000001 m m' := by
  obtain ⟨lv, rfl⟩ : ∃ a, lv = a + 1 := ⟨lv - 1, by omega⟩
  have s0 := size_0
  have s3 := size_3
  have mil := million'
  refine wp_run (g := f37) rfl rfl ?_
  have hcs := cnt_sl (n + 1) d h
  have facts : ∀ {k : Nat} {e : D}, Tm NN (k + 1) e → k ≤ n → sl e ≤ sl d → (rows (k + 1) e [] []) ≠ [] ∧ (rows (k + 1) e [] []).length = cnt (k + 1) e ∧ mx ((rows (k + 1) e [] []).map fun r => r.1.length) + 1 = dep (k + 1) e ∧ (∀ q ∈ rows (k + 1) e [] [], q.1.length ≤ 1000) ∧ cnt (k + 1) e ≤ 900000 ∧ dep (k + 1) e ≤ 1000 ∧ (rows (k + 1) e [] []).length ≤ sizeLine := fun {k e} te hk hze => by
    have c1 := cnt_sl (k + 1) e te
    have c2 := rows_dep (k + 1) e [] [] te
    have c3 := dep_le (k + 1) e te
    refine ⟨by simp [rows], rows_len, by simpa using c2, fun q hq => ?_, by omega, by omega, by rw [rows_len]; omega⟩
    obtain ⟨p, e1, _, _, e4⟩ := rows_part (k + 1) e [] [] te q hq
    rw [e1]; simp; omega
  have hpaths := fun N m' hw' hN' => r_paths hN (lv := lv) (w := w) (N := N) (m := m') h hn hz (by omega) hw' hN'
  have hparts := rows_part (n + 1) d [] [] h
  obtain ⟨hne, hrl, hmx, hlz, hc9, hd9, hll⟩ := facts h (Nat.le_refl _) (Nat.le_refl _)
  have p14 : ∀ {k : Nat} {e : D}, Tm NN (k + 1) e → k ≤ n → ∀ m, run F C lv 14 [e] m = .ok (.int (cnt (k + 1) e)) m := fun te hk m => r_partsof hN te (by omega) (by omega) m
  have p15 : ∀ {k : Nat} {e : D}, Tm NN (k + 1) e → k ≤ n → ∀ m, run F C lv 15 [e] m = .ok (.int (dep (k + 1) e)) m := fun te hk m => r_depthof hN te (by omega) (by omega) m
  have p16 : ∀ {k : Nat} {e : D}, Tm NN (k + 1) e → k ≤ n → ∀ m, wp (run F C lv 16 [e]) m fun r m' => FT NN (k + 1) e m r m' := fun te hk m => r_freenames hN hN6 te (by omega) (by omega) m
  simp only [f37, b37_is]
  simp [s0, -thenS_nx]
  refine wp_mono (tell hN hN6 (lv := lv) m h hn hz (by omega)) fun z m1 ⟨ez, ap1⟩ => ?_
  subst ez
  have tf := fun m => tellF hN hN6 (lv := lv) m h (by omega)
  generalize hrs : rows (n + 1) d [] [] = rs at *
  rw [thenS_nx]
  simp only [x_c, x_asg]
  refine max_run rfl rfl hne hlz hll ?_
  simp [-thenS_nx]
  rw [thenS_nx]
  simp [-thenS_nx]
  refine wp_mono (tf m1) fun z m2 ft => ?_
  have ap2 : Ap m1 m2 := by obtain ⟨_, _, _, _, _, q⟩ := ft; exact q
  rw [thenS_nx]
  simp [eq_wp (p14 h (Nat.le_refl _) _), eq_wp (p15 h (Nat.le_refl _) _), s3, -thenS_nx]
  refine wp_mono (p16 h (Nat.le_refl _) m2) fun z2 m3 ft2 => ?_
  have ap3 : Ap m2 m3 := by obtain ⟨_, _, _, _, _, q⟩ := ft2; exact q
  have ez := FT.same (n' := 0) ft ft2
  subst ez
  have mxc : ∀ {rs : List Rw} {k : Nat} {e : D}, mx (rs.map fun r => r.1.length) + 1 = dep (k + 1) e → ((mx (rs.map fun r => r.1.length) : Nat) : Int) + 1 = ((dep (k + 1) e : Nat) : Int) := fun h => by omega
  rw [hrl, mxc hmx]
  have st := fun m => (r_same_told (m2 := m) (lv := lv) hN hS hN6 (by omega) ft2 hc9 hd9).1
  have st2 := fun m => (r_same_told (m2 := m) (lv := lv) hN hS hN6 (by omega) ft2 hc9 hd9).2
  have ap13 := (ap1.trans ap2).trans ap3
  have g3 := ap13.go hw
  have hw3 := g3.well _ hw
  have hrpos : 0 < rs.length := List.length_pos_iff.mpr hne
  simp [eq_wp (st _), -thenS_nx]
  rw [thenS_nx]
  simp [-thenS_nx]
  refine wp_mono (draw' (n := lv) (by omega) hw3 (by omega) (by omega) (by omega)) fun dd m4 ⟨g4, b, eb, b1⟩ => ?_
  subst eb
  have hb : b < rs.length := by omega
  have ixb : atI (rs.map rowD) (b : Int) = some (rowD rs[b]) := by rw [at_n]; simp [hb]
  obtain ⟨p, e1, e2, _, _⟩ := hparts rs[b] (List.getElem_mem hb)
  obtain ⟨k, hk, te⟩ := prt_dp _ d _ n h e2
  have hze := prt_sl _ d _ e2
  generalize hq : rs[b] = q at *
  obtain ⟨qp, e, qb⟩ := q
  have te : Tm NN (k + 1) e := te
  have hze : sl e ≤ sl d := hze
  obtain ⟨ine, irl, imx, ilz, ic9, id9, ill⟩ := facts te hk hze
  simp [ixb, rowD, Tgs.len, -thenS_nx]
  rw [thenS_nx]
  simp [s0, -thenS_nx]
  refine wp_mono (tell hN hN6 (lv := lv) m4 te (by omega) (by omega) (by omega)) fun z5 m5 ⟨ez5, ap5⟩ => ?_
  subst ez5
  have tfe := fun m => tellF hN hN6 (lv := lv) m te (by omega)
  generalize hrs2 : rows (k + 1) e [] [] = rs2 at *
  rw [thenS_nx]
  simp only [x_c, x_asg]
  refine max_run rfl rfl ine ilz ill ?_
  simp [-thenS_nx]
  rw [thenS_nx]
  simp [arrange, eq_wp (p14 te hk _), eq_wp (p15 te hk _), s3, -thenS_nx]
  refine wp_mono (p16 te hk m5) fun z6 m6 ft6 => ?_
  have ap6 : Ap m5 m6 := by obtain ⟨_, _, _, _, _, q⟩ := ft6; exact q
  rw [thenS_nx]
  simp [s3, -thenS_nx]
  refine wp_mono (tfe m6) fun z7 m7 ft7 => ?_
  have ap7 : Ap m6 m7 := by obtain ⟨_, _, _, _, _, q⟩ := ft7; exact q
  have ez7 := FT.same (n' := 0) ft7 ft6
  subst ez7
  have ste := fun m => (r_same_told (m2 := m) (lv := lv) hN hS hN6 (by omega) ft6 ic9 id9).1
  rw [irl, mxc imx]
  simp [eq_wp (ste _), -thenS_nx]
  rw [thenS_nx]
  simp
  have hw4 := g4.well _ hw3
  have ap47 := (ap5.trans ap6).trans ap7
  have g7 := ap47.go hw4
  have hw7 := g7.well _ hw4
  refine wp_mono (hpaths _ m7 hw7 (by omega)) fun z8 m8 ⟨ez8, g8⟩ => ?_
  subst ez8
  simp
  refine wp_mono (p16 h (Nat.le_refl _) m8) fun z9 m9 ft9 => ?_
  have ap9 : Ap m8 m9 := by obtain ⟨_, _, _, _, _, q⟩ := ft9; exact q
  have ez9 := FT.same (n' := 0) ft9 ft2
  subst ez9
  simp [eq_wp (st2 _)]
  have hw8 := g8.well _ hw7
  exact ((((g3.trans g4).trans g7).trans g8).trans (ap9.go hw8)).mono (by omega)
end Pk05
end
section -- Y05
set_option Elab.async false
set_option linter.all false
set_option maxRecDepth 100000
set_option maxHeartbeats 4000000
namespace Pk05
open PySem L2 Mp
theorem pickL {n w N : Nat} {xs : List D} {m : Sto} (hn : 2 ≤ n) (hw : Well m w N) (hN : N < 2 ^ 60) (h0 : xs ≠ []) (h1 : xs.length < 1073741824) :
    wp (run F C n 20 [.ref w, .lst xs]) m fun d m' => Go w 1 m m' ∧ d ∈ xs := by
  obtain ⟨n, rfl⟩ : ∃ a, n = a + 2 := ⟨n - 2, by omega⟩
  refine wp_run (g := f20) rfl rfl ?_
  have hl : 0 < xs.length := List.length_pos_iff.mpr h0
  simp [f20, b20]
  refine wp_mono (draw hw hN (by omega) (by omega)) fun d m1 ⟨go, r, er, r0, r1⟩ => ?_
  subst er
  obtain ⟨x, e, hx⟩ := atI_mem r0 r1
  simp [e]
  exact ⟨go, hx⟩
theorem pickS {n w N : Nat} {z : Str} {m : Sto} (hn : 2 ≤ n) (hw : Well m w N) (hN : N < 2 ^ 60) (h0 : 0 < z.length) (h1 : z.length < 1000) :
    wp (run F C n 20 [.ref w, .str z]) m fun d m' => Go w 1 m m' ∧ d ∈ strD z := by
  obtain ⟨n, rfl⟩ : ∃ a, n = a + 2 := ⟨n - 2, by omega⟩
  refine wp_run (g := f20) rfl rfl ?_
  have mil := million'
  have hz : z.length ≤ sizeLine := by omega
  simp [f20, b20, l_str hz]
  refine wp_mono (draw hw hN (by omega) (by omega)) fun d m1 ⟨go, r, er, r0, r1⟩ => ?_
  subst er
  obtain ⟨i, rfl⟩ := Int.eq_ofNat_of_zero_le r0
  have hi : i < z.cps.toList.length := by rw [← len_list]; omega
  have ix : ixD m1 (.str z) (.int (i : Int)) = some (chD z.cps.toList[i]) := by
    show (if z.length ≤ sizeLine then (atI z.cps.toList (i : Int)).map fun c => D.str ⟨#[c]⟩ else none) = _
    rw [if_pos hz, at_n, List.getElem?_eq_getElem hi]
    rfl
  refine ⟨_, ix, go, ?_⟩
  rw [strD_eq]
  exact List.mem_map_of_mem (List.getElem_mem hi)
theorem Go.set3 {w N : Nat} {m : Sto} {a b c d : Int} (e : m[w]? = some (.lst [.int a, .int b, .int c, .int d])) (hd : 0 < d) : Go w 0 m (m.set w (.lst [.int a, .int b, .int c, .int (d - 1)])) := by
  have hl := (List.getElem?_eq_some_iff.mp e).1
  refine ⟨by rw [List.length_set]; omega, fun i hi hw => by rw [List.getElem?_set_ne (Ne.symm hw)], fun N ⟨a', b', c', d', e', h1, h2, h3, h4, h5⟩ => ?_⟩
  rw [e] at e'
  simp at e'
  obtain ⟨rfl, rfl, rfl, rfl⟩ := e'
  exact ⟨a, b, c, d - 1, by rw [List.getElem?_set_self hl], h1, h2, h3, h4, by omega⟩
def G60 : Int := 10 ^ 60
def G300 : Int := 10 ^ 300
def G20 : Int := 10 ^ 20
def G15 : Int := 10 ^ 15
theorem pw60 {m : Sto} : binD m .Pow (.int 10) (.int 60) = some (.int G60) := by
  rw [b_pow, if_pos (by decide +kernel)]; rfl
theorem pw20 {m : Sto} : binD m .Pow (.int 10) (.int 20) = some (.int G20) := by
  rw [b_pow, if_pos (by decide +kernel)]; rfl
theorem pw15 {m : Sto} : binD m .Pow (.int 10) (.int 15) = some (.int G15) := by
  rw [b_pow, if_pos (by decide +kernel)]; rfl
theorem pw300 {m : Sto} : binD m .Pow (.int G60) (.int 5) = some (.int G300) := by
  rw [b_pow, if_pos (by decide +kernel)]
  have : G60 ^ (5 : Int).toNat = G300 := by decide +kernel
  rw [this]
def numB (d : D) : Bool := match d with
  | .int i => decide (i.natAbs ≤ BB)
  | _ => false
theorem r_number {n w N : Nat} {m : Sto} (hn : 5 ≤ n) (hw : Well m w N) (hN : N + 3 < 2 ^ 60) : wp (run F C n 23 [.ref w]) m fun d m' => Go w 2 m m' ∧ ∃ i : Int, d = .int i ∧ i.natAbs ≤ BB := by
  obtain ⟨n, rfl⟩ : ∃ a, n = a + 1 := ⟨n - 1, by omega⟩
  refine wp_run (g := f23) rfl rfl ?_
  have hbb : (1000000 : Nat) ≤ BB := by decide +kernel
  simp [f23, b23, -thenS_nx]
  refine wp_mono (draw' (n := n) (by omega) hw (by omega) (by decide) (by decide)) fun dd m1 ⟨g1, r, er, r1⟩ => ?_
  subst er
  have hw1 := g1.well _ hw
  obtain ⟨a, b, c, dd, e, h1, h2, h3, h4, h5⟩ := id hw1
  rw [thenS_nx]
  have small : wp (run F C n 19 [.ref w, .int 4]) m1 (fun d m' => Go w 2 m m' ∧ ∃ i : Int, d = .int i ∧ i.natAbs ≤ BB) := wp_mono (draw' (n := n) (by omega) hw1 (by omega) (by decide) (by decide)) fun d m2 ⟨g2, i, ei, hi⟩ => ⟨g1.trans g2, i, ei, by omega⟩
  have mid : wp (run F C n 19 [.ref w, .int 39]) m1 (fun x m1 => ∃ d, binD m1 .Sub x (.int 19) = some d ∧ Go w 2 m m1 ∧ ∃ i : Int, d = .int i ∧ i.natAbs ≤ BB) := wp_mono (draw' (n := n) (by omega) hw1 (by omega) (by decide) (by decide)) fun d m2 ⟨g2, i, ei, hi⟩ => ⟨.int ((i : Int) - 19), by rw [ei]; rfl, g1.trans g2, _, rfl, by omega⟩
  by_cases h8 : r = 8 ∧ 0 < dd
  · obtain ⟨rfl, hd⟩ := h8
    have gs := Go.set3 (N := N) e hd
    have hw2 := gs.well _ hw1
    have s7 : (7 : Nat) ≤ sizeLine := by decide
    have q60 : (Builtin.Int.intBits 10 : Int) = 4 := by decide +kernel
    have hp := fun xs h0 h1 => pick' (n := n) (xs := xs) (by omega) hw2 (by omega) h0 h1
    simp [i_ref e, hd, wp_setD e, ixN, -thenS_nx]
    rw [thenS_nx]
    have mo : mulOk (-7) G300 = true := mulOk_l (by decide) (by decide)
    simp [-b_pow, pw60, pw300, pw20, pw15, mo, s7]
    refine wp_mono (hp _ (by simp) (by simp)) fun d m2 ⟨g2, hm⟩ => ⟨((g1.trans gs).trans g2).mono (by omega), ?_⟩
    simp only [List.mem_cons, List.not_mem_nil, or_false] at hm
    rcases hm with rfl | rfl | rfl | rfl | rfl | rfl | rfl
    all_goals exact ⟨_, rfl, by decide +kernel⟩
  · by_cases hr : r = 8
    · have hd : ¬ 0 < dd := fun q => h8 ⟨hr, q⟩
      subst hr
      simp [i_ref e, hd]
      exact mid
    · have hr' : ¬ ((r : Int) = 8) := by omega
      by_cases h4 : r < 4
      · have h4' : (r : Int) < 4 := by omega
        simp [hr', h4']
        exact small
      · have h4' : ¬ (r : Int) < 4 := by omega
        simp [hr', h4']
        exact mid
def NL (NN : List Str) (few : List Str) : Prop := few ≠ [] ∧ few.length ≤ 10 ∧ ∀ x ∈ few, x ∈ NN
/-- a drawn term: its depth, its size -/
def Tz (NN : List Str) (n s : Nat) (d : D) : Prop := Tm NN n d ∧ sl d ≤ s
theorem r_pickN {NN few : List Str} (hf : NL NN few) {n w N : Nat} {m : Sto} (hn : 2 ≤ n) (hw : Well m w N) (hN : N < 2 ^ 60) : wp (run F C n 20 [.ref w, .lst (few.map .str)]) m fun d m' => Go w 1 m m' ∧ ∃ x ∈ NN, d = .str x := by
  refine wp_mono (pickL hn hw hN (by simpa using hf.1) (by have := hf.2.1; simp; omega)) fun d m' ⟨g, hm⟩ => ⟨g, ?_⟩
  obtain ⟨x, hx, rfl⟩ := List.mem_map.mp hm
  exact ⟨x, hf.2.2 x hx, rfl⟩
theorem tm_leaf {NN : List Str} {w : Str} {cs : List Nat} {es : List D} (h : (w, cs) ∈ shp) (he : Els NN (Tm NN 0) cs es) : Tm NN 1 (.tup (.str w :: es)) := ⟨w, cs, es, rfl, h, he⟩
theorem el_n {NN : List Str} {P : D → Prop} {x : Str} (h : x ∈ NN) : El NN P 110 (.str x) := by
  unfold El; rw [if_neg (by decide), if_pos rfl]; exact ⟨x, h, rfl⟩
theorem el_i {NN : List Str} {P : D → Prop} {i : Int} (h : i.natAbs ≤ BB) : El NN P 105 (.int i) := by
  unfold El; rw [if_neg (by decide), if_neg (by decide), if_neg (by decide), if_neg (by decide)]; exact ⟨i, rfl, h⟩
theorem el_k {NN : List Str} {P : D → Prop} {k : Kg} (h : k.dp ≤ 6) : El NN P 107 k.d := by
  unfold El; rw [if_neg (by decide), if_neg (by decide), if_pos rfl]; exact ⟨k, rfl, h⟩
theorem el_t {NN : List Str} {P : D → Prop} {e : D} (h : P e) : El NN P 116 e := by
  unfold El; rw [if_pos rfl]; exact h
theorem el_s {NN : List Str} {P : D → Prop} {e : D} (h : e = .str "<" ∨ e = .str "<=" ∨ e = .str "==") : El NN P 115 e := by
  unfold El; rw [if_neg (by decide), if_neg (by decide), if_neg (by decide), if_pos rfl]; exact h
theorem sl_k {k : Kg} (h : k.dp ≤ 3) : sl k.d ≤ 175 := by
  have h1 := sl_nd k
  have h2 := nd_dp k
  have p : 2 ^ k.dp ≤ 2 ^ 3 := Nat.pow_le_pow_right (by decide) h
  omega
theorem r_leaf {NN few : List Str} (hS : NmSz NN) (hf : NL NN few) {n w N : Nat} {m : Sto} (hn : 7 ≤ n) (hw : Well m w N) (hN : N + 30 < 2 ^ 60) : wp (run F C n 28 [.ref w, .lst (few.map .str)]) m fun d m' => Go w 28 m m' ∧ Tz NN 1 350 d := by
  obtain ⟨n, rfl⟩ : ∃ a, n = a + 1 := ⟨n - 1, by omega⟩
  refine wp_run (g := f28) rfl rfl ?_
  have s2 := size_2
  have s1 := size_1
  simp [f28, b28, -thenS_nx]
  refine wp_mono (draw' (n := n) (by omega) hw (by omega) (by decide) (by decide)) fun dd m1 ⟨g1, r, er, r1⟩ => ?_
  subst er
  have hw1 := g1.well _ hw
  rw [thenS_nx]
  have m_name : (("name" : Str), [110]) ∈ shp := by simp [shp]
  have m_number : (("number" : Str), [105]) ∈ shp := by simp [shp]
  have m_unit : (("unit" : Str), ([] : List Nat)) ∈ shp := by simp [shp]
  have m_nil : (("nil" : Str), [107]) ∈ shp := by simp [shp]
  have z1 := shp_sz m_name
  have z2 := shp_sz m_number
  have z3 := shp_sz m_unit
  have z4 := shp_sz m_nil
  by_cases h4 : r < 4
  · have h4' : (r : Int) < 4 := by omega
    simp [h4', s2]
    refine wp_mono (r_pickN hf (n := n) (by omega) hw1 (by omega)) fun d m2 ⟨g2, x, hx, ed⟩ => ?_
    subst ed
    have hx2 := hS x hx
    refine ⟨(g1.trans g2).mono (by omega), tm_leaf m_name ⟨_, _, rfl, el_n hx, rfl⟩, ?_⟩
    simp only [sl, slL]; omega
  · have h4' : ¬ (r : Int) < 4 := by omega
    by_cases h6 : r < 6
    · have h6' : (r : Int) < 6 := by omega
      simp [h4', h6', s2]
      refine wp_mono (r_number (n := n) (by omega) hw1 (by omega)) fun d m2 ⟨g2, i, ed, hi⟩ => ?_
      subst ed
      refine ⟨(g1.trans g2).mono (by omega), tm_leaf m_number ⟨_, _, rfl, el_i hi, rfl⟩, ?_⟩
      simp only [sl, slL]; omega
    · have h6' : ¬ (r : Int) < 6 := by omega
      by_cases h7 : r = 6
      · subst h7
        simp [s1]
        refine ⟨g1.mono (by omega), tm_leaf m_unit rfl, ?_⟩
        simp only [sl, slL]; omega
      · have h7' : ¬ ((r : Int) = 6) := by omega
        simp [h4', h6', h7', s2]
        obtain ⟨l, rfl⟩ : ∃ l, n = l + 3 + 2 := ⟨n - 5, by omega⟩
        refine wp_mono (kind 3 (n := l) (which := 0) (by omega) (by omega) (.inl rfl) hw1 (by omega)) fun d m2 ⟨g2, k, ed, hk, _⟩ => ?_
        subst ed
        have := sl_k hk
        refine ⟨(g1.trans g2).mono (by omega), tm_leaf m_nil ⟨_, _, rfl, el_k (by omega), rfl⟩, ?_⟩
        simp only [sl, slL]; omega
end Pk05
end
section -- Za05
set_option Elab.async false
set_option linter.all false
set_option maxRecDepth 100000
set_option maxHeartbeats 4000000
namespace Pk05
open PySem L2 Mp
def TW : List D := [.str "fn", .str "call", .str "let", .str "plus", .str "minus", .str "times", .str "pair", .str "first", .str "second", .str "left", .str "right", .str "case", .str "is", .str "cons", .str "fold", .str "fn", .str "let", .str "case", .str "call", .str "cons"]
def wts (t o : Nat) : List Nat → Nat
  | [] => 0
  | c :: cs => (if c = 116 then t else o) + wts t o cs
theorem wts_le (t o : Nat) : ∀ cs : List Nat, wts t o cs = (cs.countP fun c => c == 116) * t + (cs.countP fun c => !(c == 116)) * o
  | [] => by simp [wts]
  | c :: cs => by
    have ih := wts_le t o cs
    simp only [wts, List.countP_cons, ih]
    by_cases h : c = 116
    · simp [h, Nat.add_mul]; omega
    · simp [h, Nat.add_mul]; omega
def tcB (cs : List Nat) : Bool := (cs.all fun c => c == 110 || c == 107 || c == 115 || c == 116) && (decide ((cs.countP fun c => c == 116) ≤ 3) && decide ((cs.countP fun c => !(c == 116)) ≤ 2))
def twB : D → Bool
  | .str w => shp.any fun p => decide (p.1 = w) && tcB p.2
  | _ => false
theorem tw_all : TW.all twB = true := by decide +kernel
theorem tw_ok {d : D} (h : d ∈ TW) : ∃ w cs, d = .str w ∧ (w, cs) ∈ shp ∧ (∀ c ∈ cs, c = 110 ∨ c = 107 ∨ c = 115 ∨ c = 116) ∧ ∀ t o, wts t o cs ≤ 3 * t + 2 * o := by
  have := List.all_eq_true.mp tw_all d h
  cases d with
  | str w =>
    simp only [twB, List.any_eq_true, Bool.and_eq_true, decide_eq_true_eq, tcB] at this
    obtain ⟨⟨w', cs⟩, hm, rfl, h1, h2, h3⟩ := this
    refine ⟨w', cs, rfl, hm, fun c hc => ?_, fun t o => ?_⟩
    · have := List.all_eq_true.mp h1 c hc
      simp only [Bool.or_eq_true, beq_iff_eq] at this
      omega
    · rw [wts_le]
      exact Nat.add_le_add (Nat.mul_le_mul_right _ h2) (Nat.mul_le_mul_right _ h3)
  | _ => cases this
def TS : Nat → Nat
  | 0 => 0
  | d + 1 => 3 * TS d + 400
def TC : Nat → Nat
  | 0 => 0
  | d + 1 => 3 * TC d + 60
theorem itm_ref {m : Sto} {c : Nat} {xs : List D} (h : m[c]? = some (.lst xs)) : items m (.ref c) = some xs := by simp only [items, h]
/-- behind some letters: the cell's contents so far -/
def I29 (NN : List Str) (w c0 : Nat) (dp : Nat) (wd : Str) (cs : List Nat) (few : List Str) (m : Sto) (rest : List D) (r : Mp.Env) (m' : Sto) : Prop :=
  ∃ (cr : List Nat) (es : List D) (g : Nat) (e5 : Option D), rest = cr.map chD ∧ (∀ c ∈ cr, c = 110 ∨ c = 107 ∨ c = 115 ∨ c = 116) ∧ r = [some (.ref w), some (.int ((dp : Int) + 1)), some (.lst (few.map D.str)), some (.str wd), some (.ref c0), e5] ∧ m'[c0]? = some (.lst (.str wd :: es)) ∧ (∀ es', Els NN (Tm NN dp) cr es' → Els NN (Tm NN dp) cs (es ++ es')) ∧ es.length + cr.length = cs.length ∧ slL es + wts (TS dp + 2) 180 cr ≤ wts (TS dp + 2) 180 cs ∧ Go w g m m' ∧ g + wts (TC dp) 27 cr ≤ 2 + wts (TC dp) 27 cs
theorem els_snoc {NN : List Str} {P : D → Prop} {cs : List Nat} {c : Nat} {cr : List Nat} {es : List D} {e : D} (h : ∀ es', Els NN P (c :: cr) es' → Els NN P cs (es ++ es')) (he : El NN P c e) : ∀ es', Els NN P cr es' → Els NN P cs ((es ++ [e]) ++ es') := fun es' q => by
  rw [List.append_assoc]
  exact h _ ⟨e, es', rfl, he, q⟩
theorem r_term {NN few : List Str} (hS : NmSz NN) (hf : NL NN few) : ∀ (dp : Nat) {n w N : Nat} {m : Sto}, 1 ≤ dp → dp ≤ 7 → dp + 8 ≤ n → Well m w N → N + TC dp + 100 < 2 ^ 60 →
    wp (run F C n 29 [.ref w, .int dp, .lst (few.map .str)]) m fun d m' => Go w (TC dp) m m' ∧ Tz NN dp (TS dp) d
  | 0, n, w, N, m, h1, _, _, _, _ => by omega
  | dp + 1, n, w, N, m, h1, h7, hn, hw, hN => by
    obtain ⟨n, rfl⟩ : ∃ a, n = a + 1 := ⟨n - 1, by omega⟩
    refine wp_run (g := f29) rfl rfl ?_
    have mil := million'
    have s1 := size_1
    simp only [TC] at hN
    have leaf : ∀ (m1 : Sto) (c : Nat), Go w c m m1 → c ≤ 1 → wp (run F C n 28 [.ref w, .lst (few.map .str)]) m1 fun d m' => Go w (TC (dp + 1)) m m' ∧ Tz NN (dp + 1) (TS (dp + 1)) d := fun m1 c g hc => by
      refine wp_mono (r_leaf hS hf (n := n) (by omega) (g.well _ hw) (by omega)) fun d m2 ⟨g2, t1, t2⟩ => ⟨(g.trans g2).mono (by simp only [TC]; omega), t1.mono (by omega), by simp only [TS]; omega⟩
    by_cases hd : dp = 0
    · subst hd
      simp [f29, b29]
      exact leaf m 0 Go.refl (by omega)
    · have hd' : ¬ ((dp : Int) + 1 = 1) := by omega
      simp [f29, b29, hd', -Bool.exists_bool, -thenS_nx]
      refine wp_mono (draw' (n := n) (by omega) hw (by omega) (by decide) (by decide)) fun dd m1 ⟨g1, r, er, r1⟩ => ?_
      subst er
      by_cases h0 : r = 0
      · subst h0
        simp
        exact leaf m1 1 g1 (by omega)
      · have h0' : ¬ ((r : Int) = 0) := by omega
        have s20 : (20 : Nat) ≤ sizeLine := by omega
        simp [h0, h0', -thenS_nx]
        rw [thenS_nx]
        simp [s20, -thenS_nx]
        refine wp_mono (pick' (n := n) (xs := TW) (by omega) (g1.well _ hw) (by omega) (by simp [TW]) (by simp [TW])) fun d m2 ⟨g2, hd⟩ => ?_
        obtain ⟨wd, cs, rfl, hs, hcs, hwt⟩ := tw_ok hd
        have g12 := g1.trans g2
        have hw2 := g12.well _ hw
        have hl2 := hw2.lt
        rw [thenS_nx]
        simp [s1, -thenS_nx]
        have g3 := g12.trans (Go.push hw2 (.lst [.str wd]))
        have hc3 : (m2 ++ [Cell.lst [D.str wd]])[m2.length]? = some (.lst [.str wd]) := by simp
        have ml2 : m.length ≤ m2.length := g12.len
        have hwl : w < m.length := hw.lt
        generalize hm3 : m2 ++ [Cell.lst [D.str wd]] = m3 at g3 hc3 ⊢
        rw [thenS_nx]
        obtain ⟨n, rfl⟩ : ∃ a, n = a + 1 := ⟨n - 1, by omega⟩
        simp [-thenS_nx]
        refine wp_mono (r_forms hs n m3) fun z m4 ⟨ez, ap4⟩ => ?_
        subst ez
        have g4 := g3.trans (ap4.go (g3.well _ hw))
        simp [strD_txt, -thenS_nx]
        have hcl := shp_len hs
        have hws := hwt (TS dp + 2) 180
        have hwc := hwt (TC dp) 27
        refine wp_forL (I29 NN w m2.length dp wd cs few m) _ _ _ ?_ ?_ ?_
        · exact ⟨cs, [], 2, none, rfl, hcs, by simp, ap4.at hc3, fun es' h => h, by simp, by simp [slL], g4.mono (by omega), by omega⟩
        · intro x rest r m' hI
          obtain ⟨cr, es, g, e5, hrest, hcr, rfl, hc, hels, hlen, hsl, hg, hgc⟩ := hI
          cases cr with
          | nil => cases hrest
          | cons c cr =>
            simp only [List.map_cons, List.cons.injEq] at hrest
            obtain ⟨rfl, rfl⟩ := hrest
            have hcm := hcr c List.mem_cons_self
            have hcm' : c = 110 ∨ c = 107 ∨ c = 105 ∨ c = 115 ∨ c = 116 := by omega
            have hcr' : ∀ c ∈ cr, c = 110 ∨ c = 107 ∨ c = 115 ∨ c = 116 := fun z hz => hcr z (List.mem_cons_of_mem _ hz)
            have hc0 : m2.length < m'.length := (List.getElem?_eq_some_iff.mp hc).1
            have hrec : recOk m' .append (.ref m2.length) = true := r_lst hc
            have et := e_ch (c := c) (c' := 116) hcm' (by simp)
            have en := e_ch (c := c) (c' := 110) hcm' (by simp)
            have ek := e_ch (c := c) (c' := 107) hcm' (by simp)
            rw [← t_is] at et
            rw [← n_is] at en
            rw [← k_is] at ek
            simp only [List.length_cons] at hlen
            have hel : es.length + 1 < sizeLine := by omega
            simp only [wts] at hsl hgc
            have hw' := hg.well _ hw
            have fin : ∀ (e : D) (m5 : Sto) (g' : Nat), El NN (Tm NN dp) c e → Go w g' m' m5 → g' ≤ (if c = 116 then TC dp else 27) → sl e + 2 ≤ (if c = 116 then TS dp + 2 else 180) → wp (metM .append (.ref m2.length) [e]) m5 fun _ m6 => loopQ (thenS (Mp.run F C (n + 1)) C (.c (.ret (.blt .tuple (.c (.loc 4) .n))) .n) (endD fun d m' => Go w (TC (dp + 1)) m m' ∧ Tz NN (dp + 1) (TS (dp + 1)) d)) (I29 NN w m2.length dp wd cs few m (cr.map chD)) (.nx [some (.ref w), some (.int ((dp : Int) + 1)), some (.lst (few.map D.str)), some (.str wd), some (.ref m2.length), some (chD c)]) m6 := fun e m5 g' he hg5 hgl hsl' => by
              have hc5 : m5[m2.length]? = some (.lst (.str wd :: es)) := by rw [hg5.keep _ hc0 (by omega)]; exact hc
              rw [m_app hc5 (by simpa using hel)]
              have hl5 : m2.length < m5.length := (List.getElem?_eq_some_iff.mp hc5).1
              refine ⟨cr, es ++ [e], g + g', some (chD c), rfl, hcr', rfl, by rw [List.getElem?_set_self hl5]; simp, els_snoc hels he, by simp; omega, ?_, (hg.trans hg5).set hw ml2 _, by omega⟩
              rw [slL_append]
              simp only [slL]
              omega
            by_cases h6 : c = 116
            · subst h6
              have hgc' := hgc
              rw [if_pos rfl] at hgc'
              have e1 : ((dp : Int) + 1) - 1 = (dp : Int) := by omega
              simp [et, hrec, e1, -thenS_nx]
              refine wp_mono (r_term hS hf dp (n := n + 1) (by omega) (by omega) (by omega) hw' (by omega)) fun e m5 ⟨g5, t1, t2⟩ => ?_
              simp only [thenS_nx, x_n]
              exact fin e m5 _ (el_t t1) g5 (by simp) (by simp; omega)
            · by_cases h0 : c = 110
              · subst h0
                simp [et, en, hrec, -thenS_nx]
                refine wp_mono (r_pickN hf (n := n + 1) (by omega) hw' (by omega)) fun e m5 ⟨g5, x, hx, ee⟩ => ?_
                subst ee
                have := hS x hx
                simp only [thenS_nx, x_n]
                exact fin _ m5 _ (el_n hx) g5 (by simp) (by simp [sl]; omega)
              · by_cases h7' : c = 107
                · subst h7'
                  simp [et, en, ek, hrec, -thenS_nx]
                  obtain ⟨l, rfl⟩ : ∃ l, n = l + 3 + 1 := ⟨n - 4, by omega⟩
                  refine wp_mono (kind 3 (n := l) (which := 0) (by omega) (by omega) (.inl rfl) hw' (by omega)) fun d m5 ⟨g5, k, ed, hk, _⟩ => ?_
                  subst ed
                  have := sl_k hk
                  simp only [thenS_nx, x_n]
                  exact fin _ m5 _ (el_k (by omega)) g5 (by simp) (by simp; omega)
                · have h5 : c = 115 := by omega
                  subst h5
                  have s3 : (3 : Nat) ≤ sizeLine := by omega
                  simp [et, en, ek, hrec, s3, -thenS_nx]
                  refine wp_mono (pick' (n := n + 1) (by omega) hw' (by omega) (by simp) (by simp)) fun d m5 ⟨g5, hm⟩ => ?_
                  have hm' : d = .str "<" ∨ d = .str "<=" ∨ d = .str "==" := by simpa using hm
                  have : sl d ≤ 8 := by rcases hm' with rfl | rfl | rfl <;> decide +kernel
                  simp only [thenS_nx, x_n]
                  exact fin _ m5 _ (el_s hm') g5 (by simp) (by simp; omega)
        · intro r m' hI
          obtain ⟨cr, es, g, e5, hrest, hcr, rfl, hc, hels, hlen, hsl, hg, hgc⟩ := hI
          have hcr0 : cr = [] := by cases cr with
            | nil => rfl
            | cons _ _ => cases hrest
          subst hcr0
          have hel := hels [] rfl
          rw [List.append_nil] at hel
          simp [itm_ref hc]
          have hz := shp_sz hs
          simp only [wts] at hsl hgc
          refine ⟨hg.mono (by simp only [TC]; omega), ⟨wd, cs, es, rfl, hs, hel⟩, ?_⟩
          simp only [sl, slL, TS]
          omega
end Pk05
end
section -- Zb05
set_option Elab.async false
set_option linter.all false
set_option maxRecDepth 100000
set_option maxHeartbeats 4000000
namespace Pk05
open PySem L2 Mp
theorem sh_minus : (("minus" : Str), [116]) ∈ shp := by simp [shp]
theorem sh_plus : (("plus" : Str), [116, 116]) ∈ shp := by simp [shp]
theorem sh_let : (("let" : Str), [110, 116, 116]) ∈ shp := by simp [shp]
theorem sh_fn : (("fn" : Str), [110, 107, 116]) ∈ shp := by simp [shp]
theorem sh_case : (("case" : Str), [116, 110, 116, 110, 116]) ∈ shp := by simp [shp]
theorem sh_first : (("first" : Str), [116]) ∈ shp := by simp [shp]
theorem sh_fold : (("fold" : Str), [116, 116, 116]) ∈ shp := by simp [shp]
theorem sh_name : (("name" : Str), [110]) ∈ shp := by simp [shp]
theorem sh_unit : (("unit" : Str), ([] : List Nat)) ∈ shp := by simp [shp]
theorem tm_of {NN : List Str} {n : Nat} {w : Str} {cs : List Nat} {es : List D} (h : (w, cs) ∈ shp) (he : Els NN (Tm NN n) cs es) : Tm NN (n + 1) (.tup (.str w :: es)) := ⟨w, cs, es, rfl, h, he⟩
theorem tm_name {NN : List Str} {x : Str} (hx : x ∈ NN) (hS : NmSz NN) : Tz NN 1 60 (.tup [.str "name", .str x]) := by
  have := hS x hx
  have z := shp_sz sh_name
  refine ⟨tm_of sh_name ⟨_, _, rfl, el_n hx, rfl⟩, ?_⟩
  simp only [sl, slL]; omega
theorem tm_unit {NN : List Str} : Tz NN 1 60 (.tup [.str "unit"]) := by
  have z := shp_sz sh_unit
  refine ⟨tm_of sh_unit rfl, ?_⟩
  simp only [sl, slL]; omega
theorem at_few {few : List Str} {i : Nat} (h : i < few.length) : (few.map D.str)[i]? = some (.str few[i]) := by simp [h]
def I30 (NN few : List Str) (w t : Nat) (m : Sto) (rest : List D) (r : Mp.Env) (m' : Sto) : Prop :=
  ∃ (i : Nat) (e : D) (e4 e5 : Option D), i ≤ t - 1 ∧ rest = rngD (i : Int) (t - 1 - i) ∧ r = [some (.ref w), some (.int t), some (.lst (few.map D.str)), some e, e4, e5] ∧ Tz NN (i + 1) (400 + 500 * i) e ∧ Go w (28 + i) m m'
theorem r_tall {NN few : List Str} (hS : NmSz NN) (hf : NL NN few) (h2 : 2 ≤ few.length) {n w N t : Nat} {m : Sto} (ht : t ≤ 100) (h1 : 1 ≤ t) (hn : 10 ≤ n) (hw : Well m w N) (hN : N + 200 < 2 ^ 60) :
    wp (run F C n 30 [.ref w, .int t, .lst (few.map .str)]) m fun d m' => Go w 200 m m' ∧ Tz NN 100 60000 d := by
  obtain ⟨n, rfl⟩ : ∃ a, n = a + 1 := ⟨n - 1, by omega⟩
  refine wp_run (g := f30) rfl rfl ?_
  have mil := million'
  have s1 : (1 : Nat) ≤ sizeLine := by omega
  have s2 : (2 : Nat) ≤ sizeLine := by omega
  have s3 : (3 : Nat) ≤ sizeLine := by omega
  have s4 : (4 : Nat) ≤ sizeLine := by omega
  have z1 := shp_sz sh_minus
  have z2 := shp_sz sh_plus
  have z3 := shp_sz sh_let
  have z4 := shp_sz sh_first
  have z5 := shp_sz sh_fold
  have a0 := at_few (few := few) (i := 0) (by omega)
  have a1 := at_few (few := few) (i := 1) (by omega)
  have m0 := hf.2.2 _ (List.getElem_mem (l := few) (n := 0) (by omega))
  have m1' := hf.2.2 _ (List.getElem_mem (l := few) (n := 1) (by omega))
  generalize hx0 : few[0] = x0 at *
  generalize hx1 : few[1] = x1 at *
  simp [f30, b30, -thenS_nx]
  refine wp_mono (r_leaf hS hf (n := n) (by omega) hw (by omega)) fun d m1 ⟨g1, t1, t2⟩ => ?_
  rw [thenS_nx]
  have sm : small62 ((t : Int) - 1) = true := by unfold small62; simp; omega
  have tn : ((t : Int) - 1).toNat = t - 1 := by omega
  simp [sm, tn, -thenS_nx]
  refine wp_forL (I30 NN few w t m) _ _ _ ⟨0, d, none, none, by omega, by simp, by simp, ⟨t1, by omega⟩, g1.mono (by omega)⟩ ?_ ?_
  · rintro x rest r m' hI
    obtain ⟨i, e, e4, e5, hi, hr, rfl, ⟨te, ze⟩, hg⟩ := hI
    obtain ⟨k, hk⟩ : ∃ k, t - 1 - i = k + 1 := by
      rcases hq : t - 1 - i with _ | k
      · rw [hq] at hr; simp [rngD] at hr
      · exact ⟨k, rfl⟩
    rw [hk, rngD_succ] at hr
    obtain ⟨rfl, rfl⟩ := List.cons.inj hr
    have hg' := hg.well _ hw
    have step : ∀ (m5 : Sto) (v : Nat), Go w 1 m' m5 → wp (exs (run F C n) C (.c (.iff (.cmp .Eq (.loc 5) (.cst (.int 0))) (.c (.asg (.nm 3) (.tup (.c (.cst (.str "minus")) (.c (.loc 3) .n)))) .n) (.c (.iff (.cmp .Eq (.loc 5) (.cst (.int 1))) (.c (.asg (.nm 3) (.tup (.c (.cst (.str "plus")) (.c (.tup (.c (.cst (.str "name")) (.c (.sub (.loc 2) (.cst (.int 0))) .n))) (.c (.loc 3) .n))))) .n) (.c (.iff (.cmp .Eq (.loc 5) (.cst (.int 2))) (.c (.asg (.nm 3) (.tup (.c (.cst (.str "let")) (.c (.sub (.loc 2) (.cst (.int 1))) (.c (.loc 3) (.c (.tup (.c (.cst (.str "name")) (.c (.sub (.loc 2) (.cst (.int 1))) .n))) .n)))))) .n) (.c (.asg (.nm 3) (.ite (.cmp .Eq (.loc 5) (.cst (.int 3))) (.tup (.c (.cst (.str "first")) (.c (.loc 3) .n))) (.tup (.c (.cst (.str "fold")) (.c (.tup (.c (.cst (.str "unit")) .n)) (.c (.loc 3) (.c (.tup (.c (.cst (.str "unit")) .n)) .n))))))) .n)) .n)) .n)) .n) [some (.ref w), some (.int t), some (.lst (few.map D.str)), some e, some (.int (i : Int)), some (.int (v : Int))]) m5 fun f m6 => m6 = m5 ∧ ∃ e', f = .nx [some (.ref w), some (.int t), some (.lst (few.map D.str)), some e', some (.int (i : Int)), some (.int (v : Int))] ∧ Tz NN (i + 2) (400 + 500 * (i + 1)) e' := fun m5 v g5 => by
      have n0 := tm_name m0 hS
      have n1 := tm_name m1' hS
      have un := tm_unit (NN := NN)
      by_cases v0 : v = 0
      · subst v0
        simp [s2]
        refine ⟨tm_of sh_minus ⟨_, _, rfl, el_t te, rfl⟩, ?_⟩
        simp only [sl, slL]; omega
      · by_cases v1 : v = 1
        · subst v1
          simp [s2, s3, a0]
          refine ⟨tm_of sh_plus ⟨_, _, rfl, el_t (n0.1.mono (by omega)), _, _, rfl, el_t te, rfl⟩, ?_⟩
          have := n0.2
          simp only [sl, slL] at this ⊢; omega
        · by_cases v2 : v = 2
          · subst v2
            simp [s2, s4, a1]
            refine ⟨tm_of sh_let ⟨_, _, rfl, el_n m1', _, _, rfl, el_t te, _, _, rfl, el_t (n1.1.mono (by omega)), rfl⟩, ?_⟩
            have := n1.2
            simp only [sl, slL] at this ⊢; omega
          · have v0' : ¬ ((v : Int) = 0) := by omega
            have v1' : ¬ ((v : Int) = 1) := by omega
            have v2' : ¬ ((v : Int) = 2) := by omega
            by_cases v3 : v = 3
            · subst v3
              simp [s2]
              refine ⟨tm_of sh_first ⟨_, _, rfl, el_t te, rfl⟩, ?_⟩
              simp only [sl, slL]; omega
            · have v3' : ¬ ((v : Int) = 3) := by omega
              simp [s1, s4, v0, v1, v2, v3, v0', v1', v2', v3']
              refine ⟨tm_of sh_fold ⟨_, _, rfl, el_t (un.1.mono (by omega)), _, _, rfl, el_t te, _, _, rfl, el_t (un.1.mono (by omega)), rfl⟩, ?_⟩
              have := un.2
              simp only [sl, slL] at this ⊢; omega
    have fin : ∀ (m5 : Sto) (v : Nat), Go w 1 m' m5 → ∀ f m6, (m6 = m5 ∧ ∃ e', f = Fl.nx [some (.ref w), some (.int t), some (.lst (few.map D.str)), some e', some (.int (i : Int)), some (.int (v : Int))] ∧ Tz NN (i + 2) (400 + 500 * (i + 1)) e') → loopQ (thenS (Mp.run F C n) C (.c (.ret (.loc 3)) .n) (endD fun d m' => Go w 200 m m' ∧ Tz NN 100 60000 d)) (I30 NN few w t m (rngD ((i : Int) + 1) k)) f m6 := fun m5 v g5 f m6 ⟨em, e', ef, te'⟩ => by
      subst ef em
      exact ⟨i + 1, e', _, _, by omega, by rw [show t - 1 - (i + 1) = k by omega]; rfl, rfl, te', (hg.trans g5).mono (by omega)⟩
    by_cases h20 : i < 20
    · have h20' : (i : Int) < 20 := by omega
      simp [h20', -thenS_nx]
      refine wp_mono (draw' (n := n) (by omega) hg' (by omega) (by decide) (by decide)) fun dd m5 ⟨g5, v, ev, hv⟩ => ?_
      subst ev
      rw [thenS_nx]
      exact wp_mono (step m5 v g5) (fin m5 v g5)
    · have h20' : ¬ (i : Int) < 20 := by omega
      simp [h20', -thenS_nx]
      rw [thenS_nx]
      have em : (i : Int) % 5 = ((i % 5 : Nat) : Int) := by omega
      rw [em]
      have g0 : Go w 1 m' m' := Go.refl.mono (by omega)
      exact wp_mono (step m' (i % 5) g0) (fin m' (i % 5) g0)
  · rintro r m' hI
    obtain ⟨i, e, e4, e5, hi, hr, rfl, ⟨te, ze⟩, hg⟩ := hI
    simp
    exact ⟨hg.mono (by omega), te.mono (by omega), by omega⟩
theorem r_wide {NN few : List Str} (hS : NmSz NN) (hf : NL NN few) : ∀ (k : Nat) {n w N L : Nat} {m : Sto}, k ≤ 6 → 1 ≤ L → L ≤ 2 ^ k → k + 9 ≤ n → Well m w N → N + 30 * L + 100 ≤ 2 ^ 60 →
    wp (run F C n 31 [.ref w, .int L, .lst (few.map .str)]) m fun d m' => Go w (30 * L - 1) m m' ∧ Tz NN (k + 1) (450 * L - 50) d := by
  intro k
  induction k with
  | zero =>
    intro n w N L m hk h1 hL hn hw hN
    have : L = 1 := by omega
    subst this
    obtain ⟨n, rfl⟩ : ∃ a, n = a + 1 := ⟨n - 1, by omega⟩
    refine wp_run (g := f31) rfl rfl ?_
    simp [f31, b31]
    exact wp_mono (r_leaf hS hf (n := n) (by omega) hw (by omega)) fun d m1 ⟨g1, t1, t2⟩ => ⟨g1.mono (by omega), t1, by omega⟩
  | succ k ih =>
    intro n w N L m hk h1 hL hn hw hN
    obtain ⟨n, rfl⟩ : ∃ a, n = a + 1 := ⟨n - 1, by omega⟩
    refine wp_run (g := f31) rfl rfl ?_
    have mil := million'
    have s3 : (3 : Nat) ≤ sizeLine := by omega
    have s5 : (5 : Nat) ≤ sizeLine := by omega
    rw [Nat.pow_succ] at hL
    by_cases h : L = 1
    · subst h
      simp [f31, b31]
      exact wp_mono (r_leaf hS hf (n := n) (by omega) hw (by omega)) fun d m1 ⟨g1, t1, t2⟩ => ⟨g1.mono (by omega), t1.mono (by omega), by omega⟩
    · have h' : ¬ ((L : Int) = 1) := by omega
      simp [f31, b31, h, h', s5, -thenS_nx]
      rw [thenS_nx]
      simp [s5, -thenS_nx]
      refine wp_mono (pick' (n := n) (by omega) hw (by omega) (by simp) (by simp)) fun d m1 ⟨g1, hm⟩ => ?_
      obtain ⟨wd, rfl, hs⟩ : ∃ wd : Str, d = .str wd ∧ (wd, [116, 116]) ∈ shp := by
        simp only [List.mem_cons, List.not_mem_nil, or_false] at hm
        rcases hm with rfl | rfl | rfl | rfl | rfl
        all_goals exact ⟨_, rfl, by simp [shp]⟩
      have z := shp_sz hs
      have e1 : (L : Int) / 2 = ((L / 2 : Nat) : Int) := by omega
      have e2 : (L : Int) - (L : Int) / 2 = ((L - L / 2 : Nat) : Int) := by omega
      rw [thenS_nx]
      simp [-thenS_nx]
      rw [e1]
      have hw1 := g1.well _ hw
      refine wp_mono (ih (n := n) (by omega) (by omega) (by omega) (by omega) hw1 (by omega)) fun d1 m2 ⟨g2, t1, z1⟩ => ?_
      rw [thenS_nx]
      simp [s3]
      rw [e2]
      have hw2 := g2.well _ hw1
      refine wp_mono (ih (n := n) (by omega) (by omega) (by omega) (by omega) hw2 (by omega)) fun d2 m3 ⟨g3, t2, z2⟩ => ?_
      refine ⟨((g1.trans g2).trans g3).mono (by omega), tm_of hs ⟨_, _, rfl, el_t t1, _, _, rfl, el_t t2, rfl⟩, ?_⟩
      simp only [sl, slL]
      omega
end Pk05
end
section -- Zc05
set_option Elab.async false
set_option linter.all false
set_option maxRecDepth 100000
set_option maxHeartbeats 4000000
namespace Pk05
open PySem L2 Mp
def L1 : List Str := letters.cps.toList.map fun c => ⟨#[c]⟩
def L2' : List Str := ("xyzuvwlfabc" : Str).cps.toList.map fun c => ⟨#[c]⟩
def S5 : List Str := ["", "1", "x", "q9", "let0"]
def S3 : List Str := ["0", "a", "z7"]
def ones : List Str := L1.flatMap fun a => S5.map fun b => a ++ b
def twos : List Str := ones.flatMap fun a => S3.map fun b => a ++ b
def threes : List Str := L2'.flatMap fun a => [a, cutS (a ++ "01234567") none (some 8)]
def fours : List Str := L2'.flatMap fun a => L1.map fun b => (a ++ b) ++ "0"
def nmzB (x : Str) : Bool := PyData.strOk x && (decide (x.length ≤ 10) && decide ((reprText x).length ≤ 20))
theorem nmz1 : ones.all nmzB = true := by decide +kernel
theorem nmz2 : twos.all nmzB = true := by decide +kernel
theorem nmz3 : threes.all nmzB = true := by decide +kernel
theorem nmz4 : fours.all nmzB = true := by decide +kernel
def Nmz (x : Str) : Prop := PyData.strOk x = true ∧ x.length ≤ 10 ∧ (reprText x).length ≤ 20
theorem nmz_of {l : List Str} (h : l.all nmzB = true) {x : Str} (hx : x ∈ l) : Nmz x := by
  have := List.all_eq_true.mp h x hx
  simp only [nmzB, Bool.and_eq_true, decide_eq_true_eq] at this
  exact this
theorem lenL1 : L1.all (fun x => decide (x.length = 1)) = true := by decide +kernel
theorem lenL2 : L2'.all (fun x => decide (x.length = 1)) = true := by decide +kernel
theorem strD_L1 : strD letters = L1.map D.str := by rw [strD_eq, L1, List.map_map]; rfl
theorem strD_L2 : strD "xyzuvwlfabc" = L2'.map D.str := by rw [strD_eq, L2', List.map_map]; rfl
theorem r_names {n w N : Nat} {m : Sto} (hn : 10 ≤ n) (hw : Well m w N) (hN : N + 10 < 2 ^ 60) : wp (run F C n 27 [.ref w]) m fun d m' => Go w 5 m m' ∧ ∃ xs : List Str, d = .lst (xs.map D.str) ∧ xs.length = 4 ∧ ∀ x ∈ xs, Nmz x := by
  obtain ⟨n, rfl⟩ : ∃ a, n = a + 1 := ⟨n - 1, by omega⟩
  refine wp_run (g := f27) rfl rfl ?_
  have mil := million'
  have s2 : (2 : Nat) ≤ sizeLine := by omega
  have s3 : (3 : Nat) ≤ sizeLine := by omega
  have s4 : (4 : Nat) ≤ sizeLine := by omega
  have s5 : (5 : Nat) ≤ sizeLine := by omega
  have ll : letters.length = 26 := by decide +kernel
  have lw : ("xyzuvwlfabc" : Str).length = 11 := by decide +kernel
  have l8 : ("01234567" : Str).length = 8 := by decide +kernel
  have l0 : ("0" : Str).length = 1 := by decide +kernel
  have key : ∀ {a b : Str}, a ∈ L1 → b ∈ L2' → a.length = 1 ∧ b.length = 1 := fun {a b} ha hb => ⟨by simpa using List.all_eq_true.mp lenL1 a ha, by simpa using List.all_eq_true.mp lenL2 b hb⟩
  simp [f27, b27, s2, Tgs.len, -thenS_nx]
  refine wp_mono (pickS (n := n) (z := letters) (by omega) hw (by omega) (by omega) (by omega)) fun d m1 ⟨g1, h1⟩ => ?_
  rw [strD_L1] at h1
  obtain ⟨a, ha, rfl⟩ := List.mem_map.mp h1
  refine wp_mono (pickS (n := n) (z := "xyzuvwlfabc") (by omega) (g1.well _ hw) (by omega) (by omega) (by omega)) fun d m2 ⟨g2, h2⟩ => ?_
  rw [strD_L2] at h2
  obtain ⟨b, hb, rfl⟩ := List.mem_map.mp h2
  obtain ⟨la, lb⟩ := key ha hb
  have g12 := g1.trans g2
  rw [thenS_nx]
  simp [s5, -thenS_nx]
  refine wp_mono (pick' (n := n) (xs := S5.map D.str) (by omega) (g12.well _ hw) (by omega) (by simp [S5]) (by simp [S5])) fun d m3 ⟨g3, h3⟩ => ?_
  obtain ⟨c, hc, rfl⟩ := List.mem_map.mp h3
  have o1 : a ++ c ∈ ones := List.mem_flatMap.mpr ⟨a, ha, List.mem_map_of_mem hc⟩
  have z1 := nmz_of nmz1 o1
  have lac : a.length + c.length ≤ sizeLine := by
    have : (a ++ c).length = a.length + c.length := Str.length_append a c
    have := z1.2.1
    omega
  have g13 := g12.trans g3
  simp [lac, -thenS_nx]
  rw [thenS_nx]
  simp [s3, -thenS_nx]
  refine wp_mono (pick' (n := n) (xs := S3.map D.str) (by omega) (g13.well _ hw) (by omega) (by simp [S3]) (by simp [S3])) fun d m4 ⟨g4, h4⟩ => ?_
  obtain ⟨e, he, rfl⟩ := List.mem_map.mp h4
  have o2 : (a ++ c) ++ e ∈ twos := List.mem_flatMap.mpr ⟨_, o1, List.mem_map_of_mem he⟩
  have z2 := nmz_of nmz2 o2
  have lace : (a ++ c).length + e.length ≤ sizeLine := by
    have : ((a ++ c) ++ e).length = (a ++ c).length + e.length := Str.length_append _ e
    have := z2.2.1
    omega
  have g14 := g13.trans g4
  have o4 : (b ++ a) ++ "0" ∈ fours := List.mem_flatMap.mpr ⟨b, hb, List.mem_map_of_mem (f := fun a => (b ++ a) ++ ("0" : Str)) ha⟩
  have z4 := nmz_of nmz4 o4
  have lba : b.length + a.length ≤ sizeLine := by omega
  have lba0 : (b ++ a).length + ("0" : Str).length ≤ sizeLine := by
    have : (b ++ a).length = b.length + a.length := Str.length_append _ _
    omega
  have lb8 : b.length + ("01234567" : Str).length ≤ sizeLine := by omega
  have lb8' : (b ++ ("01234567" : Str)).length ≤ sizeLine := by
    have : (b ++ ("01234567" : Str)).length = b.length + ("01234567" : Str).length := Str.length_append _ _
    omega
  simp [lace, -thenS_nx]
  rw [thenS_nx]
  simp [-Bool.exists_bool, -thenS_nx]
  refine wp_mono (draw' (n := n) (by omega) (g14.well _ hw) (by omega) (by decide) (by decide)) fun dd m5 ⟨g5, r, er, r1⟩ => ?_
  subst er
  have g15 := g14.trans g5
  have fin : ∀ t : Str, t ∈ threes → wp (exs (run F C n) C (.c (.asg (.nm 4) (.bin .Add (.bin .Add (.loc 6) (.loc 5)) (.cst (.str "0")))) (.c (.ret (.lst (.c (.loc 1) (.c (.loc 2) (.c (.loc 3) (.c (.loc 4) .n)))))) .n)) [some (.ref w), some (.str (a ++ c)), some (.str ((a ++ c) ++ e)), some (.str t), none, some (.str a), some (.str b)]) m5 (endD fun d m' => Go w 5 m m' ∧ ∃ xs : List Str, d = .lst (xs.map D.str) ∧ xs.length = 4 ∧ ∀ x ∈ xs, Nmz x) := fun t ht => by
    simp [lba, lba0, s4]
    refine ⟨g15.mono (by omega), [a ++ c, (a ++ c) ++ e, t, (b ++ a) ++ "0"], rfl, rfl, fun x hx => ?_⟩
    simp only [List.mem_cons, List.not_mem_nil, or_false] at hx
    rcases hx with rfl | rfl | rfl | rfl
    · exact z1
    · exact z2
    · exact nmz_of nmz3 ht
    · exact z4
  by_cases h0 : r = 0
  · subst h0
    simp [lb8, sliD, lb8', -thenS_nx]
    rw [thenS_nx]
    exact fin _ (List.mem_flatMap.mpr ⟨b, hb, by simp⟩)
  · have h0' : ¬ ((r : Int) = 0) := by omega
    simp [h0, h0', -thenS_nx]
    rw [thenS_nx]
    exact fin b (List.mem_flatMap.mpr ⟨b, hb, by simp⟩)
end Pk05
end
section -- Zd05
set_option Elab.async false
set_option linter.all false
set_option maxRecDepth 100000
set_option maxHeartbeats 4000000
namespace Pk05
open PySem L2 Mp
def I38 (NN few : List Str) (w q s : Nat) (m : Sto) (rest : List D) (r : Mp.Env) (m' : Sto) : Prop :=
  ∃ (c : Nat) (e : D) (e3 e4 e5 : Option D), rest.length ≤ 3 ∧ r = [some (.ref w), some e, some (.lst (few.map D.str)), e3, e4, e5] ∧ Tz NN (q + (3 - rest.length)) (s + 6000 * (3 - rest.length)) e ∧ Go w c m m' ∧ c + 800 * rest.length ≤ 2401
theorem r_often {NN few : List Str} (hS : NmSz NN) (hf : NL NN few) {q s n w N : Nat} {d : D} {m : Sto} (hd : Tz NN q s d) (h1 : 3 ≤ q) (hq : q ≤ 90) (hn : 20 ≤ n) (hw : Well m w N) (hN : N + 5000 < 2 ^ 60) :
    wp (run F C n 38 [.ref w, d, .lst (few.map .str)]) m fun d m' => Go w 2500 m m' ∧ Tz NN (q + 3) (s + 18000) d := by
  obtain ⟨n, rfl⟩ : ∃ a, n = a + 1 := ⟨n - 1, by omega⟩
  refine wp_run (g := f38) rfl rfl ?_
  have mil := million'
  have s1 : (1 : Nat) ≤ sizeLine := by omega
  have s2 : (2 : Nat) ≤ sizeLine := by omega
  have s3 : (3 : Nat) ≤ sizeLine := by omega
  have s4 : (4 : Nat) ≤ sizeLine := by omega
  have s6 : (6 : Nat) ≤ sizeLine := by omega
  have z1 := shp_sz sh_fn
  have z3 := shp_sz sh_let
  have z4 := shp_sz sh_case
  simp [f38, b38, -thenS_nx]
  refine wp_mono (draw' (n := n) (by omega) hw (by omega) (by decide) (by decide)) fun dd m1 ⟨g1, t, et, ht⟩ => ?_
  subst et
  have sm : small62 (t : Int) = true := by unfold small62; simp; omega
  have ht3 : t ≤ 3 := by omega
  simp [sm, -thenS_nx]
  refine wp_forL (I38 NN few w q s m) _ _ _ ⟨1, d, none, none, none, by rw [rng_len]; omega, rfl, ⟨hd.1.mono (by omega), by have := hd.2; omega⟩, g1, by rw [rng_len]; omega⟩ ?_ ?_
  · intro x rest r m' hI
    obtain ⟨c, e, e3, e4, e5, hl, rfl, ⟨te, ze⟩, hg, hc⟩ := hI
    simp only [List.length_cons] at hl hc te ze
    have hw' := hg.well _ hw
    have e7 : 3 - rest.length = 3 - (rest.length + 1) + 1 := by omega
    have fin : ∀ {m6 : Sto} {c' : Nat} {e' : D} {x3 x4 x5 : Option D}, Go w c' m' m6 → c' ≤ 800 → Tm NN (q + (3 - (rest.length + 1)) + 1) e' → sl e' ≤ sl e + 6000 → I38 NN few w q s m rest [some (.ref w), some e', some (.lst (few.map D.str)), x3, x4, x5] m6 := fun {m6 c' e' x3 x4 x5} g hc' te' ze' =>
      ⟨c + c', e', x3, x4, x5, by omega, rfl, ⟨by rw [e7]; exact te', by rw [e7]; omega⟩, hg.trans g, by omega⟩
    simp [s2, Tgs.len, -thenS_nx]
    refine wp_mono (r_pickN hf (n := n) (by omega) hw' (by omega)) fun d1 m2 ⟨g2, x0, hx0, ex0⟩ => ?_
    subst ex0
    have hx2 := hS x0 hx0
    refine wp_mono (draw' (n := n) (by omega) (g2.well _ hw') (by omega) (by decide) (by decide)) fun dd m3 ⟨g3, v, ev, hv⟩ => ?_
    subst ev
    have g23 := g2.trans g3
    have hw3 := g23.well _ hw'
    have nm := tm_name hx0 hS
    rw [thenS_nx]
    have vs : v = 0 ∨ v = 1 ∨ v = 2 ∨ v = 3 := by omega
    rcases vs with rfl | rfl | rfl | rfl
    · simp [s4, loopQ]
      obtain ⟨l, rfl⟩ : ∃ l, n = l + 2 + 2 := ⟨n - 4, by omega⟩
      refine wp_mono (kind 2 (n := l) (which := 0) (by omega) (by omega) (.inl rfl) hw3 (by omega)) fun d m5 ⟨g5, k, ed, hk, _⟩ => ?_
      subst ed
      have := sl_k (k := k) (by omega)
      refine fin (g23.trans g5) (by omega) (tm_of sh_fn ⟨_, _, rfl, el_n hx0, _, _, rfl, el_k (by omega), _, _, rfl, el_t te, rfl⟩) ?_
      simp only [sl, slL]; omega
    · simp [s4, loopQ]
      refine wp_mono (r_leaf hS hf (n := n) (by omega) hw3 (by omega)) fun d m5 ⟨g5, t1, t2⟩ => ?_
      refine fin (g23.trans g5) (by omega) (tm_of sh_let ⟨_, _, rfl, el_n hx0, _, _, rfl, el_t (t1.mono (by omega)), _, _, rfl, el_t te, rfl⟩) ?_
      simp only [sl, slL]; omega
    · simp [s4, loopQ]
      have tc2 : TC 2 = 240 := rfl
      have ts2 : TS 2 = 1600 := rfl
      refine wp_mono (r_term hS hf 2 (n := n) (by omega) (by omega) (by omega) hw3 (by omega)) fun d m5 ⟨g5, t1, t2⟩ => ?_
      refine fin (g23.trans g5) (by omega) (tm_of sh_let ⟨_, _, rfl, el_n hx0, _, _, rfl, el_t te, _, _, rfl, el_t (t1.mono (by omega)), rfl⟩) ?_
      simp only [sl, slL]; omega
    · simp [s2, s6, -thenS_nx]
      refine wp_mono (r_pickN hf (n := n) (by omega) hw3 (by omega)) fun d1 m4 ⟨g4, x1, hx1, ex1⟩ => ?_
      subst ex1
      have hx3 := hS x1 hx1
      have g24 := g23.trans g4
      have hw4 := g24.well _ hw'
      have tc3 : TC 3 = 780 := rfl
      have ts3 : TS 3 = 5200 := rfl
      refine wp_mono (r_term hS hf 3 (n := n) (by omega) (by omega) (by omega) hw4 (by omega)) fun d m5 ⟨g5, t1, t2⟩ => ?_
      have nmz := nm.2
      simp [loopQ]
      refine fin (g24.trans g5) (by omega) (tm_of sh_case ⟨_, _, rfl, el_t (nm.1.mono (by omega)), _, _, rfl, el_n hx0, _, _, rfl, el_t te, _, _, rfl, el_n hx1, _, _, rfl, el_t (t1.mono (by omega)), rfl⟩) ?_
      simp only [sl, slL] at nmz ⊢; omega
  · intro r m' hI
    obtain ⟨c, e, e3, e4, e5, hl, rfl, ⟨te, ze⟩, hg, hc⟩ := hI
    simp only [List.length_nil] at te ze hc
    simp
    exact ⟨hg.mono (by omega), te, ze⟩
end Pk05
end
section -- Mk05
set_option Elab.async false
set_option linter.all false
set_option maxRecDepth 100000
set_option maxHeartbeats 4000000
namespace Pk05
open PySem L2 Mp
theorem cut3 {xs : List D} : cutD xs none (some 3) = xs.take 3 := by
  unfold cutD
  simp only [HT.sIx, List.drop_zero, Nat.sub_zero]
  by_cases h : 3 ≤ xs.length
  · have : ((3 : Int)).toNat = 3 := rfl
    simp [h]
  · rw [List.take_of_length_le (by simp; omega), List.take_of_length_le (by omega)]
theorem named {n : Nat} {m : Sto} {r : Mp.Env} (hr : r.length = 9) {xs : List Str} (hx : ∀ x ∈ xs, Nmz x) : lcL (lcO (run F C (n + 1)) C (.nm 8) (.c (.call 26 (.c (.loc 8) .n)) .n) (.loc 8) r) (xs.map D.str) m = .ok ((xs.filterMap fun x => if goodB x then some x else none).map D.str) m := by
  have mil := million'
  refine lcL_fmf (k := D.str) fun x hxm => ?_
  obtain ⟨h1, h2, h3⟩ := hx x hxm
  have hg := fun m => r_lname (n := n) (m := m) h1 (by omega)
  have e : ∀ b : Bool, goodB x = b → lcO (run F C (n + 1)) C (.nm 8) (.c (.call 26 (.c (.loc 8) .n)) .n) (.loc 8) r (.str x) m = .ok ((if b then some x else none).map D.str) m := fun b hb => by
    refine wp_eq ?_
    rw [hb] at hg
    cases b <;> simp [Tg.slots, wipeD, hr, eq_wp (hg _)]
  exact e _ rfl
theorem right {n w : Nat} {m : Sto} (hn : 229 ≤ n) (hw : Well m w 0) : wp (run F C n 39 [.ref w]) m fun d m' => d = .bl true := by
  obtain ⟨n, rfl⟩ : ∃ a, n = a + 1 := ⟨n - 1, by omega⟩
  refine wp_run (g := f39) rfl rfl ?_
  have big : (0 : Nat) + 100000000 < 2 ^ 60 := by decide
  have mil := million'
  have s2 : (2 : Nat) ≤ sizeLine := by omega
  have s3 : (3 : Nat) ≤ sizeLine := by omega
  have s4 : (4 : Nat) ≤ sizeLine := by omega
  simp [f39, b39, -thenS_nx]
  refine wp_mono (r_names (n := n) (by omega) hw (by omega)) fun d m1 ⟨g1, xs, ed, hxl, hxs⟩ => ?_
  subst ed
  obtain ⟨n, rfl⟩ : ∃ a, n = a + 1 := ⟨n - 1, by omega⟩
  rw [thenS_nx]
  generalize hys : (xs.filterMap fun x => if goodB x then some x else none) = ys
  have hyl : ys.length ≤ 4 := by rw [← hys, ← hxl]; exact List.length_filterMap_le _ _
  have hym : ∀ x ∈ ys, x ∈ xs ∧ goodB x = true := fun x hx => by
    rw [← hys, List.mem_filterMap] at hx
    obtain ⟨a, ha, e⟩ := hx
    by_cases q : goodB a = true
    · rw [if_pos q] at e; cases e; exact ⟨ha, q⟩
    · rw [if_neg q] at e; cases e
  have hlc := fun m => named (n := n) (m := m) (r := [some (.ref w), some (.lst (xs.map D.str)), none, none, none, none, none, none, none]) rfl hxs
  rw [hys] at hlc
  have hys4 : ys.length ≤ sizeLine := by omega
  have hys6 : ys.length + 2 ≤ sizeLine := by omega
  simp [-lc_c, eq_wp (hlc _), hys4, hys6, s2, -thenS_nx]
  have eNN : ys.map D.str ++ [D.str "x", D.str "y"] = (ys ++ [("x" : Str), ("y" : Str)]).map D.str := by simp
  rw [eNN]
  generalize hNNe : ys ++ [("x" : Str), ("y" : Str)] = NN
  have hmem : ∀ x ∈ NN, (x ∈ xs ∧ goodB x = true) ∨ x = "x" ∨ x = "y" := fun x hx => by
    rw [← hNNe] at hx
    rcases List.mem_append.mp hx with q | q
    · exact .inl (hym x q)
    · exact .inr (by simpa using q)
  have xy : nmB ("x" : Str) = true ∧ nmB ("y" : Str) = true ∧ (reprText ("x" : Str)).length ≤ 20 ∧ (reprText ("y" : Str)).length ≤ 20 := by decide +kernel
  have hN : NmOk NN := fun x hx => by
    rcases hmem x hx with ⟨q1, q2⟩ | rfl | rfl
    · simp only [nmB, (hxs x q1).1, q2, Bool.and_self]
    · exact xy.1
    · exact xy.2.1
  have hS : NmSz NN := fun x hx => by
    rcases hmem x hx with ⟨q1, q2⟩ | rfl | rfl
    · exact (hxs x q1).2.2
    · exact xy.2.2.1
    · exact xy.2.2.2
  have hNl : NN.length ≤ 6 ∧ 2 ≤ NN.length := by rw [← hNNe]; simp; omega
  have hf : NL NN NN := ⟨fun q => by rw [q] at hNl; simp at hNl, by omega, fun x hx => hx⟩
  have hf3 : NL NN (NN.take 3) := ⟨fun q => by
    have h := congrArg List.length q
    rw [List.length_take, List.length_nil] at h
    omega, by rw [List.length_take]; omega, fun x hx => List.mem_of_mem_take hx⟩
  obtain ⟨K, hK, counted⟩ : ∃ K : Nat, K ≤ 3000001 ∧ ∀ (k : Nat) {N : Nat} {d : D} {m : Sto}, Tz NN (k + 1) 900000 d → k + 1 ≤ 100 → Well m w N → N + 5000000 < 2 ^ 60 → wp (run F C (n + 1) 37 [.ref w, d]) m fun r m' => r = .bl true ∧ Go w K m m' := ⟨3000001, Nat.le_refl _, fun k {N d m} h hk hw hN' =>
    r_counted hN hS (by omega) h.1 hk h.2 (by omega) hw hN'⟩
  have hcut : sliD m1 (.lst (NN.map D.str)) none (some 3) = some (.lst ((NN.take 3).map D.str)) := by
    show some (D.lst (cutD _ _ _)) = _
    rw [cut3, List.map_take]
  rw [thenS_nx]
  have sm3 : small62 3 = true := by decide
  simp [sliD, cut3, sm3, -thenS_nx]
  rw [thenS_nx]
  simp [sm3, -thenS_nx]
  rw [← List.map_take]
  generalize hfew : NN.take 3 = few at hf3 ⊢
  have tc7 : TC 7 = 65580 := rfl
  have ts : ∀ dp, dp ≤ 7 → TS dp ≤ 437200 ∧ TC dp ≤ 65580 := fun dp h => by
    have : dp = 0 ∨ dp = 1 ∨ dp = 2 ∨ dp = 3 ∨ dp = 4 ∨ dp = 5 ∨ dp = 6 ∨ dp = 7 := by omega
    rcases this with rfl | rfl | rfl | rfl | rfl | rfl | rfl | rfl <;> simp [TS, TC]
  refine wp_forL (fun rest r m' => ∃ (c : Nat) (e4 e7 : Option D), c + 7000000 * rest.length ≤ 21000005 ∧ r = [some (.ref w), some (.lst (xs.map D.str)), some (.lst (NN.map D.str)), some (.lst (few.map D.str)), e4, none, none, e7, none] ∧ Go w c m m') _ _ _ ⟨5, none, none, by rw [rng_len]; decide, rfl, g1⟩ ?_ ?_
  · rintro x rest r m' ⟨c0, e4, e7, hl, rfl, hg⟩
    simp only [List.length_cons] at hl
    have hw' := hg.well _ hw
    simp [s4, -thenS_nx]
    refine wp_mono (pick' (n := n + 1) (by omega) hw' (by omega) (by simp) (by simp)) fun c m2 ⟨g2, hcm⟩ => ?_
    obtain ⟨dp, ec, h1, h7⟩ : ∃ dp : Nat, c = .int dp ∧ 1 ≤ dp ∧ dp ≤ 7 := by
      simp only [List.mem_cons, List.not_mem_nil, or_false] at hcm
      rcases hcm with rfl | rfl | rfl | rfl
      · exact ⟨1, rfl, by decide⟩
      · exact ⟨3, rfl, by decide⟩
      · exact ⟨5, rfl, by decide⟩
      · exact ⟨7, rfl, by decide⟩
    subst ec
    obtain ⟨ts7, tc7⟩ := ts dp h7
    have hw2 := g2.well _ hw'
    refine wp_mono (r_term hS hf3 dp (n := n + 1) h1 h7 (by omega) hw2 (by omega)) fun d m3 ⟨g3, t1, t2⟩ => ?_
    have g23 := g2.trans g3
    have hw3 := g23.well _ hw'
    rw [thenS_nx]
    simp [-thenS_nx]
    refine wp_mono (counted 6 ⟨t1.mono (by omega), by omega⟩ (by omega) hw3 (by omega)) fun z m4 ⟨ez, g4⟩ => ?_
    subst ez
    have g24 := g23.trans g4
    have hw4 := g24.well _ hw'
    simp [-thenS_nx]
    refine wp_mono (r_often hS hf3 (q := 7) (s := 437200) (n := n + 1) ⟨t1.mono (by omega), by omega⟩ (by omega) (by omega) (by omega) hw4 (by omega)) fun z m5 ⟨g5, t3⟩ => ?_
    have g25 := g24.trans g5
    have hw5 := g25.well _ hw'
    refine wp_mono (counted 9 ⟨t3.1.mono (by omega), by have := t3.2; omega⟩ (by omega) hw5 (by omega)) fun z m6 ⟨ez, g6⟩ => ?_
    subst ez
    simp [loopQ]
    exact ⟨_, by omega, hg.trans (g25.trans g6)⟩
  · rintro r m' ⟨c0, e4, e7, hl, rfl, hg⟩
    simp only [List.length_nil] at hl
    have hw' := hg.well _ hw
    rw [thenS_nx]
    simp [s4, -thenS_nx]
    refine wp_mono (pick' (n := n + 1) (by omega) hw' (by omega) (by simp) (by simp)) fun c m2 ⟨g2, hcm⟩ => ?_
    obtain ⟨t, ec, h1, h7⟩ : ∃ t : Nat, c = .int t ∧ 1 ≤ t ∧ t ≤ 100 := by
      simp only [List.mem_cons, List.not_mem_nil, or_false] at hcm
      rcases hcm with rfl | rfl | rfl | rfl
      · exact ⟨20, rfl, by decide⟩
      · exact ⟨30, rfl, by decide⟩
      · exact ⟨50, rfl, by decide⟩
      · exact ⟨100, rfl, by decide⟩
    subst ec
    have hw2 := g2.well _ hw'
    refine wp_mono (r_tall hS hf (by omega) (n := n + 1) h7 h1 (by omega) hw2 (by omega)) fun d m3 ⟨g3, t1⟩ => ?_
    have g23 := g2.trans g3
    have hw3 := g23.well _ hw'
    rw [thenS_nx]
    simp [s3, -thenS_nx]
    refine wp_mono (pick' (n := n + 1) (by omega) hw3 (by omega) (by simp) (by simp)) fun c m4 ⟨g4, hcm⟩ => ?_
    obtain ⟨L, ec, h1, h7⟩ : ∃ t : Nat, c = .int t ∧ 1 ≤ t ∧ t ≤ 61 := by
      simp only [List.mem_cons, List.not_mem_nil, or_false] at hcm
      rcases hcm with rfl | rfl | rfl
      · exact ⟨12, rfl, by decide⟩
      · exact ⟨33, rfl, by decide⟩
      · exact ⟨61, rfl, by decide⟩
    subst ec
    have g24 := g23.trans g4
    have hw4 := g24.well _ hw'
    refine wp_mono (r_wide hS hf 6 (n := n + 1) (by omega) h1 (by omega) (by omega) hw4 (by omega)) fun d2 m5 ⟨g5, t2⟩ => ?_
    have g25 := g24.trans g5
    have hw5 := g25.well _ hw'
    rw [thenS_nx]
    simp
    refine wp_mono (counted 99 ⟨t1.1, by have := t1.2; omega⟩ (by omega) hw5 (by omega)) fun z m6 ⟨ez, g6⟩ => ?_
    subst ez
    have hw6 := g6.well _ hw5
    simp
    exact wp_mono (counted 6 ⟨t2.1, by have := t2.2; omega⟩ (by omega) hw6 (by omega)) fun z m7 ⟨ez, g7⟩ => ez
theorem math (ns : List Int) (h : ns.length ≤ 63) : ∃ m', Mp.run F C 230 40 [.lst (ns.map .int)] [] = .ok (.bl true) m' := by
  have turn1 : ∀ (t : Int) (m : Sto) (Q : D → Sto → Prop), 0 ≤ t → (∀ m', Q (.bl true) m') → wp (run F C 229 18 [.lst (ns.map .int), .int t]) m fun d m1 => wp (run F C 229 39 [d]) m1 Q := fun t m Q ht hQ => by
    refine wp_mono (well (n := 228) ns t ht) fun d m1 ⟨w, ed, hw⟩ => ?_
    subst ed
    exact wp_mono (right (by decide) hw) fun d m2 e => (by subst e; exact hQ m2)
  have hr : wp (run F C 230 40 [.lst (ns.map .int)]) [] fun d m' => d = .bl true := by
    refine wp_run (g := f40) rfl rfl ?_
    have s3 : (3 : Nat) ≤ sizeLine := by decide
    have s2 : (2 : Nat) ≤ sizeLine := by decide
    have z2 : small62 2 = true := by decide
    have z3 : small62 3 = true := by decide
    have r2 : rngD 0 2 = [.int 0, .int 1] := rfl
    have r3 : rngD 0 3 = [.int 0, .int 1, .int 2] := rfl
    simp [f40, b40]
    generalize hT : (if (2 : Int) < (if (3 : Int) < (ns.length : Int) then (3 : Int) else (ns.length : Int)) then (if (3 : Int) < (ns.length : Int) then (3 : Int) else (ns.length : Int)) else 2) = T
    have rT : T = 2 ∨ T = 3 := by
      rw [← hT]
      repeat' split
      all_goals omega
    rcases rT with rfl | rfl
    · simp [z2, r2, Tg.slots, wipeD]
      refine turn1 0 [] _ (by decide) fun m1 => ?_
      refine turn1 1 m1 _ (by decide) fun m2 => ?_
      simp [s2, blsOf]
    · simp [z3, r3, Tg.slots, wipeD]
      refine turn1 0 [] _ (by decide) fun m1 => ?_
      refine turn1 1 m1 _ (by decide) fun m2 => ?_
      refine turn1 2 m2 _ (by decide) fun m3 => ?_
      simp [s3, blsOf]
  obtain ⟨d, m', e, rfl⟩ := hr
  exact ⟨m', e⟩
end Pk05
end
section -- Hk05
set_option Elab.async false
set_option linter.all false
set_option maxRecDepth 100000
set_option maxHeartbeats 0
namespace Pk05
open PySem PySem.Spec PyProof.Rows L2 Mp
def mkD (d : Dsc) (v : List He.Dv) : He.DefD := ⟨(d.name, none), d.name, d.name, d.params, d.body, d.scope, v, []⟩
def fn : List He.DefD := [mkD d0 [], mkD d1 [], mkD d2 [.int 100], mkD d3 [], mkD d4 [], mkD d5 [], mkD d6 [], mkD d7 [], mkD d8 [], mkD d9 [], mkD d10 [], mkD d11 [], mkD d12 [], mkD d13 [], mkD d14 [], mkD d15 [], mkD d16 [], mkD d17 [], mkD d18 [], mkD d19 [], mkD d20 [], mkD d21 [], mkD d22 [], mkD d23 [], mkD d24 [], mkD d25 [], mkD d26 [], mkD d27 [], mkD d28 [], mkD d29 [], mkD d30 [], mkD d31 [], mkD d32 [], mkD d33 [], mkD d34 [], mkD d35 [], mkD d36 [], mkD d37 [], mkD d38 [], mkD d39 [], mkD d40 []]
def fa : List He.Fa := bl.map .free ++ dsc.map fun d => .glo d.name
def ts : List He.Tab := [(fun K => He.ga K "KIND_SIZES", ["unit", "num", "pair", "either", "list", "fun"]), (fun K => He.ga K "SHAPES", ["name", "fn", "call", "let", "unit", "number", "plus", "times", "minus", "is", "pair", "first", "second", "left", "right", "case", "nil", "cons", "fold"])]
def cs : List (Str × D) := cn.zip C
abbrev R : PySem.W.OpenRow := PySem.W.OpenLaw.row PySem.Challenge.rw_bykindalone_k05_parts_depth_free_names
abbrev hk : PySem.W.Hook := hookM 4 fa fn ts cs
def ob (s : PySem.W.SharedT) : AlM := obsMG 4 fa fn ts cs (HandSHeadRun.getT s)
theorem ob_eq (s : PySem.W.SharedT) : ob s = hk.obs s.abs := obsMG_eq (HandSHeadRun.getT_eq s)
def nm0 : List PySem.Str := ["KindError", "InvalidTerm", "is_whole", "VARS", "KIND_SIZES", "MOST_KIND_DEEP", "is_variable", "is_kinded", "SIGNS", "SHAPES", "MOST_SIGNS", "MOST_DEEP", "LETTERS", "FIGURES", "WORDS", "is_named", "is_element", "wrong_by", "wrong_in_term", "subterms", "count_parts", "depth_by", "part_by", "bound_in", "free_in", "check_term", "parts_of", "depth_of", "free_names", "part_at"]
def nm1 : List PySem.Str := ["_law_well", "_law_draw", "_law_pick", "_law_same", "_law_odd", "_law_number", "_law_kind", "_law_forms", "_law_is_name", "_law_names", "_law_leaf", "_law_term", "_law_tall", "_law_wide", "_law_walked", "_law_free", "_law_part", "_law_other_path", "_law_are_paths", "_law_is_counted", "_law_bound_often", "_law_right"]
def nm : List PySem.Str := nm0 ++ nm1
theorem top_run (w : World) : HandSHeadRun.RunEq R (PySem.W.view R.prog [58]) hk ob 6000 nm w := by
  refine PySem.W.byRow2 "special-get-raises" (P := fun w => HandSHeadRun.RunEq R (PySem.W.view R.prog [58]) hk ob 6000 nm w) (fun w os => ?_) (fun w os => ?_) w
  · kernel_rfl
  · kernel_rfl
theorem facts {w : World} {K : PySem.W.Frag} {h : Heap} {mg : Str → Option Value} (X : K.In h) (G : h.Ns mainGlobals mg) (c : SaysM fa fn ts cs w K) : Facts K w mg where
  sm := c.sm
  no := fun x hx => c.free X G (List.mem_append_left _ (List.mem_map_of_mem hx))
  cst := fun i x d h1 h2 => c.cst X G (List.mem_of_getElem? (i := i) (by rw [cs, List.getElem?_zip_eq_some]; exact ⟨h1, h2⟩)) (by
    intro ks ds e
    match i, h1, h2 with
    | 0, h1, h2 => cases h2; cases e
    | 1, h1, h2 => cases h1; exact c.t.tab 0 rfl
    | 2, h1, h2 => cases h2; cases e
    | 3, h1, h2 => cases h2; cases e
    | 4, h1, h2 => cases h1; exact c.t.tab 1 rfl
    | 5, h1, h2 => cases h2; cases e
    | 6, h1, h2 => cases h2; cases e
    | 7, h1, h2 => cases h2; cases e
    | 8, h1, h2 => cases h2; cases e
    | 9, h1, h2 => cases h2; cases e
    | _ + 10, h1, h2 => exact absurd h1 (by simp [cn]))
  at_ := fun i d hi => by
    have hm : He.Fa.glo d.name ∈ fa := List.mem_append_right _ (List.mem_map_of_mem (f := fun d : Dsc => He.Fa.glo d.name) (List.mem_of_getElem? hi))
    match i, hi with
    | 0, hi => cases hi; exact c.at_ X G 0 (e := mkD d0 []) rfl hm rfl rfl rfl rfl rfl rfl rfl rfl
    | 1, hi => cases hi; exact c.at_ X G 1 (e := mkD d1 []) rfl hm rfl rfl rfl rfl rfl rfl rfl rfl
    | 2, hi => cases hi; exact c.at_ X G 2 (e := mkD d2 [.int 100]) rfl hm rfl rfl rfl rfl rfl rfl rfl rfl
    | 3, hi => cases hi; exact c.at_ X G 3 (e := mkD d3 []) rfl hm rfl rfl rfl rfl rfl rfl rfl rfl
    | 4, hi => cases hi; exact c.at_ X G 4 (e := mkD d4 []) rfl hm rfl rfl rfl rfl rfl rfl rfl rfl
    | 5, hi => cases hi; exact c.at_ X G 5 (e := mkD d5 []) rfl hm rfl rfl rfl rfl rfl rfl rfl rfl
    | 6, hi => cases hi; exact c.at_ X G 6 (e := mkD d6 []) rfl hm rfl rfl rfl rfl rfl rfl rfl rfl
    | 7, hi => cases hi; exact c.at_ X G 7 (e := mkD d7 []) rfl hm rfl rfl rfl rfl rfl rfl rfl rfl
    | 8, hi => cases hi; exact c.at_ X G 8 (e := mkD d8 []) rfl hm rfl rfl rfl rfl rfl rfl rfl rfl
    | 9, hi => cases hi; exact c.at_ X G 9 (e := mkD d9 []) rfl hm rfl rfl rfl rfl rfl rfl rfl rfl
    | 10, hi => cases hi; exact c.at_ X G 10 (e := mkD d10 []) rfl hm rfl rfl rfl rfl rfl rfl rfl rfl
    | 11, hi => cases hi; exact c.at_ X G 11 (e := mkD d11 []) rfl hm rfl rfl rfl rfl rfl rfl rfl rfl
    | 12, hi => cases hi; exact c.at_ X G 12 (e := mkD d12 []) rfl hm rfl rfl rfl rfl rfl rfl rfl rfl
    | 13, hi => cases hi; exact c.at_ X G 13 (e := mkD d13 []) rfl hm rfl rfl rfl rfl rfl rfl rfl rfl
    | 14, hi => cases hi; exact c.at_ X G 14 (e := mkD d14 []) rfl hm rfl rfl rfl rfl rfl rfl rfl rfl
    | 15, hi => cases hi; exact c.at_ X G 15 (e := mkD d15 []) rfl hm rfl rfl rfl rfl rfl rfl rfl rfl
    | 16, hi => cases hi; exact c.at_ X G 16 (e := mkD d16 []) rfl hm rfl rfl rfl rfl rfl rfl rfl rfl
    | 17, hi => cases hi; exact c.at_ X G 17 (e := mkD d17 []) rfl hm rfl rfl rfl rfl rfl rfl rfl rfl
    | 18, hi => cases hi; exact c.at_ X G 18 (e := mkD d18 []) rfl hm rfl rfl rfl rfl rfl rfl rfl rfl
    | 19, hi => cases hi; exact c.at_ X G 19 (e := mkD d19 []) rfl hm rfl rfl rfl rfl rfl rfl rfl rfl
    | 20, hi => cases hi; exact c.at_ X G 20 (e := mkD d20 []) rfl hm rfl rfl rfl rfl rfl rfl rfl rfl
    | 21, hi => cases hi; exact c.at_ X G 21 (e := mkD d21 []) rfl hm rfl rfl rfl rfl rfl rfl rfl rfl
    | 22, hi => cases hi; exact c.at_ X G 22 (e := mkD d22 []) rfl hm rfl rfl rfl rfl rfl rfl rfl rfl
    | 23, hi => cases hi; exact c.at_ X G 23 (e := mkD d23 []) rfl hm rfl rfl rfl rfl rfl rfl rfl rfl
    | 24, hi => cases hi; exact c.at_ X G 24 (e := mkD d24 []) rfl hm rfl rfl rfl rfl rfl rfl rfl rfl
    | 25, hi => cases hi; exact c.at_ X G 25 (e := mkD d25 []) rfl hm rfl rfl rfl rfl rfl rfl rfl rfl
    | 26, hi => cases hi; exact c.at_ X G 26 (e := mkD d26 []) rfl hm rfl rfl rfl rfl rfl rfl rfl rfl
    | 27, hi => cases hi; exact c.at_ X G 27 (e := mkD d27 []) rfl hm rfl rfl rfl rfl rfl rfl rfl rfl
    | 28, hi => cases hi; exact c.at_ X G 28 (e := mkD d28 []) rfl hm rfl rfl rfl rfl rfl rfl rfl rfl
    | 29, hi => cases hi; exact c.at_ X G 29 (e := mkD d29 []) rfl hm rfl rfl rfl rfl rfl rfl rfl rfl
    | 30, hi => cases hi; exact c.at_ X G 30 (e := mkD d30 []) rfl hm rfl rfl rfl rfl rfl rfl rfl rfl
    | 31, hi => cases hi; exact c.at_ X G 31 (e := mkD d31 []) rfl hm rfl rfl rfl rfl rfl rfl rfl rfl
    | 32, hi => cases hi; exact c.at_ X G 32 (e := mkD d32 []) rfl hm rfl rfl rfl rfl rfl rfl rfl rfl
    | 33, hi => cases hi; exact c.at_ X G 33 (e := mkD d33 []) rfl hm rfl rfl rfl rfl rfl rfl rfl rfl
    | 34, hi => cases hi; exact c.at_ X G 34 (e := mkD d34 []) rfl hm rfl rfl rfl rfl rfl rfl rfl rfl
    | 35, hi => cases hi; exact c.at_ X G 35 (e := mkD d35 []) rfl hm rfl rfl rfl rfl rfl rfl rfl rfl
    | 36, hi => cases hi; exact c.at_ X G 36 (e := mkD d36 []) rfl hm rfl rfl rfl rfl rfl rfl rfl rfl
    | 37, hi => cases hi; exact c.at_ X G 37 (e := mkD d37 []) rfl hm rfl rfl rfl rfl rfl rfl rfl rfl
    | 38, hi => cases hi; exact c.at_ X G 38 (e := mkD d38 []) rfl hm rfl rfl rfl rfl rfl rfl rfl rfl
    | 39, hi => cases hi; exact c.at_ X G 39 (e := mkD d39 []) rfl hm rfl rfl rfl rfl rfl rfl rfl rfl
    | 40, hi => cases hi; exact c.at_ X G 40 (e := mkD d40 []) rfl hm rfl rfl rfl rfl rfl rfl rfl rfl
    | _ + 41, hi => exact absurd hi (by simp [dsc])
end Pk05
open PySem PySem.W PySem.Calls PyProof.Rows in
theorem PySem.Challenge.cw_bykindalone_k05_parts_depth_free_names_holds : PySem.Challenge.rw_bykindalone_k05_parts_depth_free_names.Holds := by
  w_on; o_law
  refine HandSHeadRun.head_any (r := OpenLaw.row PySem.Challenge.rw_bykindalone_k05_parts_depth_free_names) (q := view (OpenLaw.row PySem.Challenge.rw_bykindalone_k05_parts_depth_free_names).prog [58]) (H := Pk05.hk) (ob := Pk05.ob) (M := 6000) (loose := Pk05.nm) (d := HandSHeadRun.topDef (OpenLaw.row PySem.Challenge.rw_bykindalone_k05_parts_depth_free_names).prog 58) (kwd := []) Pk05.ob_eq
    (by kernel_rfl) (fun s => by kernel_rfl) Pk05.top_run (by kernel_rfl) (by kernel_rfl) (by kernel_rfl) (by rfl) (by first | assumption | decide +kernel) (by decide +kernel) ⟨rfl, rfl, rfl, rfl, rfl, by decide +kernel⟩ ?hw ?hc
  case hw => w_witness2
  case hc =>
    refine Mp.walkG (l := PySem.Challenge.rw_bykindalone_k05_parts_depth_free_names) (n := 63) (k := 230) (x := "_law_script") rfl (by decide) (by kernel_rfl) ⟨rfl, by decide, by decide⟩ rfl ?F
    intro w mg fa h Y G hmg0
    obtain ⟨K, KX, c⟩ := Y
    have hmg : mg ("law" : PySem.Str) = some (.ref fa) := by
      have e : (HandSHeadRun.topDef (OpenLaw.row PySem.Challenge.rw_bykindalone_k05_parts_depth_free_names).prog 58).name = ("law" : PySem.Str) := by kernel_rfl
      rw [← e]
      exact hmg0
    have Fc := Pk05.facts KX G c
    obtain ⟨f, fd, a1, a2⟩ := Fc.at_ 40 Pk05.d40 rfl
    have ef : fa = f := by
      have z := hmg.symm.trans (show mg ("law" : PySem.Str) = some (.ref f) from a1)
      cases z; rfl
    subst ef
    refine ⟨K, fd, Mp.spI (fun _ => 0) K w (Mp.run Pk05.F Pk05.C 230) 40 1, KX, fun s u => L2.FunD.bindsA (ps := ["_law_script"]) a2 (fun _ _ _ _ _ _ us hl => match us, hl with | [_], _ => rfl) s [u] rfl, fun H a ns hl hS => ?_, fun a o e its m => c.noList e its m, fun base _ _ => ?_⟩
    · obtain ⟨m', hm⟩ := Pk05.math ns hl
      refine ⟨rfl, [.lst (ns.map .int)], [], ⟨[], []⟩, ?_, ⟨rfl, List.nodup_nil, fun n a c h1 h2 => by simp at h1, fun a ha => by simp at ha⟩, ?_⟩
      · refine Mp.RepL.cons ?_ .nil
        simp only [Mp.Rep]
        exact ⟨a, ns.map .int, rfl, fun z => by rcases z with z | z <;> simp at z, hS, Mp.ints_rep⟩
      · rw [hm]
        intro H' j' _ _ v rv
        simp only [Mp.Rep] at rv
        exact rv
    · obtain ⟨f2, fd2, b1, b2⟩ := Pk05.all (P := (PySem.Challenge.rw_bykindalone_k05_parts_depth_free_names).prog) (base := base) (cA := fun _ => 0) Fc 230 40 Pk05.d40 rfl
      have z := a1.symm.trans b1.1
      cases z
      obtain ⟨oc, od, dV, kV, doc, pm, an, cdv, ct, osl, rfl, lk, _⟩ := a2.ex
      obtain ⟨oc2, od2, dV2, kV2, doc2, pm2, an2, cdv2, ct2, osl2, rfl, lk2, _⟩ := b1.2.ex
      rw [lk] at lk2
      cases lk2
      exact b2
end
